import PyProof.Rows.All
import Wide.All
import OpenK.AllK
import Wide.FinOn
import KE.KStateDown
import Lean
import HandS.ForMost
import HandS.ForExc
import HandS.Defaults
import HandS.Head0
import HandS.Head1
import HandS.Head2
import HandS.HeadEnd
import HandS.HeadHook1
import HandS.HeadHook2
import PySem.Challenge.RW_jumpcuts_k12_whole_rings
import KE.KSortRegAny
import KE.KDictDisplayH
import HandS.Strs
import HandS.TupSets
import HandS.IsInst
import HandS.Flow
import HandS.Style
import HandS.TupAny
import HandS.More
import KE.GoesMore
import HandS.Walk
import HandS.Conv
set_option Elab.async false
set_option linter.all false
set_option maxRecDepth 100000
set_option maxHeartbeats 4000000
/-! The text by places, and what the head is to tell of it. -/
namespace G
open PySem PySem.Spec PyProof.Rows L2
def top (i : Nat) : Stmt := PySem.Challenge.pw_jumpcuts_k12_whole_rings.main.body.getD i (.Pass ⟨0, 0, 0, 0⟩)
abbrev FnP (K : PySem.W.Frag) (x : Str) (st : Stmt) (f : Addr) (fd : FuncData) : Prop := FunD K x x (defArgs st) (defBody st) (defScope st) [] [] f fd
abbrev dOf (x : Str) (st : Stmt) : He.DefD := ⟨(x, none), x, x, defArgs st, defBody st, defScope st, [], []⟩
abbrev sNeedFilm : Stmt := top 7
abbrev sNeedShort : Stmt := top 8
abbrev sBegin : Stmt := top 10
abbrev sIsReached : Stmt := top 11
abbrev sWaysBehind : Stmt := top 12
abbrev sFewestOf : Stmt := top 14
abbrev sTurned : Stmt := top 18
abbrev sLeastTurn : Stmt := top 19
abbrev sRingName : Stmt := top 20
abbrev sSameRing : Stmt := top 21
abbrev sNeedRing : Stmt := top 22
abbrev sRingNextOf : Stmt := top 23
abbrev sRingNext : Stmt := top 24
abbrev sRingComes : Stmt := top 25
abbrev sRingFewest : Stmt := top 26
abbrev sRingPartings : Stmt := top 27
abbrev sRingOutcomes : Stmt := top 28
abbrev sRingShortest : Stmt := top 29
abbrev sIsLastRing : Stmt := top 30
abbrev sRingPeriod : Stmt := top 31
abbrev sLawTaken : Stmt := top 33
abbrev sLawPick : Stmt := top 34
abbrev sLawAlike : Stmt := top 35
abbrev sLawIs : Stmt := top 36
abbrev sLawFilm : Stmt := top 37
abbrev sLawDrawn : Stmt := top 38
abbrev sLawPartings : Stmt := top 39
abbrev sLawGoal : Stmt := top 40
abbrev sLawTurn : Stmt := top 41
abbrev sLawRingNext : Stmt := top 42
abbrev sLaw : Stmt := top 43
def fn : List He.DefD := [dOf "need_film" sNeedFilm, dOf "need_short" sNeedShort, dOf "begin" sBegin, dOf "is_reached" sIsReached, dOf "ways_behind" sWaysBehind, dOf "fewest_of" sFewestOf, dOf "turned" sTurned, dOf "least_turn" sLeastTurn, dOf "ring_name" sRingName, dOf "same_ring" sSameRing, dOf "need_ring" sNeedRing, dOf "ring_next_of" sRingNextOf, dOf "ring_next" sRingNext, dOf "ring_comes" sRingComes, dOf "ring_fewest" sRingFewest, dOf "ring_partings" sRingPartings, dOf "ring_outcomes" sRingOutcomes, dOf "ring_shortest" sRingShortest, dOf "is_last_ring" sIsLastRing, dOf "ring_period" sRingPeriod, dOf "_law_taken" sLawTaken, dOf "_law_pick" sLawPick, dOf "_law_alike" sLawAlike, dOf "_law_is" sLawIs, dOf "_law_film" sLawFilm, dOf "_law_drawn" sLawDrawn, dOf "_law_partings" sLawPartings, dOf "_law_goal" sLawGoal, dOf "_law_turn" sLawTurn, dOf "_law_ring_next" sLawRingNext, dOf "law" sLaw]
def fa1 : List He.Fa := [.glo "need_film", .glo "need_short", .glo "begin", .glo "is_reached", .glo "ways_behind", .glo "fewest_of", .glo "turned", .glo "least_turn", .glo "ring_name", .glo "same_ring", .glo "need_ring", .glo "ring_next_of", .glo "ring_next", .glo "ring_comes", .glo "ring_fewest", .glo "ring_partings", .glo "ring_outcomes", .glo "ring_shortest", .glo "is_last_ring", .glo "ring_period", .glo "_law_taken", .glo "_law_pick", .glo "_law_alike", .glo "_law_is", .glo "_law_film", .glo "_law_drawn", .glo "_law_partings", .glo "_law_goal", .glo "_law_turn", .glo "_law_ring_next", .glo "law", .free "len", .free "isinstance", .free "str", .free "enumerate"]
def fa2 : List He.Fa := [.free "tuple", .free "range", .free "min", .free "sorted", .free "any", .free "sum", .free "set", .free "int", .free "list", .free "bool", .str "LETTERS" "abcdefgh", .int "MOST_FILM" 200, .int "MOST_RING" 60, .int "MOST_LISTED" 12]
def fa : List He.Fa := fa1 ++ fa2
end G
set_option Elab.async false
set_option linter.all false
set_option maxRecDepth 100000
set_option maxHeartbeats 4000000
/-! Rules that the layer lacks: the least of a list of texts; sorted of texts, of a dict's text keys, at any length; len(set(text)); a display with one tuple as its key. -/
namespace G
open PySem PySem.Spec PyProof.Rows L2

/-! ### min of a list of texts -/
theorem strs_lt {prog : Program} {w : World} {A : Around} {P : Nat → Value → Prop} (val : Nat → Str) (hval : ∀ i v, P i v → ∃ t, v = .str (val i) t) :
    CmpOf prog w A .Lt P (fun i j => decide ((val i).cps.toList < (val j).cps.toList)) := fun i j vi vj s Q E hi hj h => by
  obtain ⟨t, rfl⟩ := hval i vi hi
  obtain ⟨u, rfl⟩ := hval j vj hj
  exact PyProof.Rows.lt_str (prog := prog) (w := w) (A := A) (E := E) (s := s) (x := val i) (t := t) (y := val j) (u := u) (Q := Q) h
theorem best_strs (val : Nat → Str) : ∀ k, argBest (fun i j => decide ((val i).cps.toList < (val j).cps.toList)) k ≤ k ∧
    ∀ j, j ≤ k → ¬ (val j).cps.toList < (val (argBest (fun i j => decide ((val i).cps.toList < (val j).cps.toList)) k)).cps.toList
  | 0 => ⟨Nat.le_refl _, fun j hj => by
      have e : j = 0 := by omega
      subst e
      exact List.lt_irrefl _⟩
  | k + 1 => by
    obtain ⟨h1, h2⟩ := best_strs val k
    unfold argBest
    by_cases c : (val (k + 1)).cps.toList < (val (argBest (fun i j => decide ((val i).cps.toList < (val j).cps.toList)) k)).cps.toList
    · rw [if_pos (decide_eq_true c)]
      refine ⟨Nat.le_refl _, fun j hj => ?_⟩
      rcases Nat.lt_or_ge j (k + 1) with hlt | hge
      · intro q
        exact h2 j (by omega) (List.lt_trans q c)
      · have e : j = k + 1 := by omega
        subst e
        exact List.lt_irrefl _
    · rw [if_neg (by simpa using c)]
      refine ⟨by omega, fun j hj => ?_⟩
      rcases Nat.lt_or_ge j (k + 1) with hlt | hge
      · exact h2 j (by omega)
      · have e : j = k + 1 := by omega
        subst e
        exact c
theorem strs_getD : ∀ {us : List Value} {xs : List Str}, StrsAre us xs → ∀ (i : Nat) (v : Value), us[i]? = some v → ∃ t, v = .str (xs.getD i Str.empty) t := SS.strs_at
def rMinS (K : PySem.W.Frag) : List V → Hp → VK → Prop := fun vs H Q => ∃ (a : Addr) (xs : List Str), vs = [V.ref a] ∧ SqL K H a (xs.map V.str) ∧ 0 < xs.length ∧
  ∀ m, m ∈ xs → (∀ y, y ∈ xs → ¬ y.cps.toList < m.cps.toList) → Q (.str m) H
section
variable {X : Cx}
theorem cr_minS (hc : X.calm = true) : CallR X (.builtin "min") (rMinS X.K) := by
  intro pins s σ H vs us Q I r h
  obtain ⟨a, xs, rfl, hs, hne, q⟩ := h
  obtain ⟨its, rv, hl, _⟩ := I.list hs
  rw [Vals.ref1 r]
  have hS := rv.strs
  have hlen : its.length = xs.length := by
    have e := rv.length
    rw [List.length_map] at e
    exact e.symm
  have hl1 := hl.isList
  have hlt : a < s.heap.objs.size := by obtain ⟨_, e, _⟩ := hl1; exact Heap.lt_size e
  have hval : ∀ (i : Nat) (v : Value), its.toArray[i]? = some v → ∃ t, v = .str (xs.getD i Str.empty) t := fun i v e => strs_getD hS i v (by simpa using e)
  refine call_min_walk (wpAny_pyIter_list hl1 ?_)
  refine ⟨_, _, _, _, _, _, _, rfl, Walks.list (A := X.A.in1) (I.ok.hd hc) s.heap.objs.size a (Nat.ne_of_lt hlt) its.toArray, ⟨⟨_, Heap.get?_push_size _ rfl, rfl, rfl⟩, hl1.push _⟩, fun b hb => ?_, by simpa [hlen] using hne,
    strs_lt (fun i => xs.getD i Str.empty) hval, fun v h' tk hP hk => ?_⟩
  · show b < (s.heap.push _).objs.size
    rw [Heap.size_push]
    rcases List.mem_cons.mp hb with e | hb
    · rw [e]
      exact Nat.lt_succ_self _
    · rw [List.mem_singleton.mp hb]
      exact Nat.lt_succ_of_lt hlt
  · obtain ⟨t, rfl⟩ := hval _ v hP
    obtain ⟨b1, b2⟩ := best_strs (fun i => xs.getD i Str.empty) (its.toArray.size - 1)
    have sz : its.toArray.size = xs.length := by rw [List.size_toArray, hlen]
    refine ⟨.str _, H, I.kept (t' := tk) fun b u e => hk b u (fun hmem => ?_) (Heap.get?_push_of_some _ e), ⟨t, rfl⟩, q _ ?_ fun y hy => ?_⟩
    · have e1 : b = s.heap.objs.size := List.mem_singleton.mp hmem
      have e2 := Heap.lt_size e
      rw [e1] at e2
      exact absurd e2 (Nat.lt_irrefl _)
    · have hb : argBest (fun i j => decide ((xs.getD i Str.empty).cps.toList < (xs.getD j Str.empty).cps.toList)) (its.toArray.size - 1) < xs.length := by omega
      rw [List.getD_eq_getElem?_getD, List.getElem?_eq_getElem hb]
      exact List.getElem_mem hb
    · obtain ⟨i, hi, e⟩ := List.mem_iff_getElem.mp hy
      have e2 : xs.getD i Str.empty = y := by rw [List.getD_eq_getElem?_getD, List.getElem?_eq_getElem hi, ← e] <;> rfl
      rw [← e2]
      exact b2 i (by omega)

/-! ### sorted of texts, any number of them -/
def rSortedSA (K : PySem.W.Frag) : List V → Hp → VK → Prop := fun vs H Q => ∃ (a : Addr) (xs : List Str), vs = [V.ref a] ∧ SqL K H a (xs.map V.str) ∧
  ∀ (ys : List Str) (p : Addr), ys.Perm xs → sortedS ys = true → H p = none → Q (.ref p) (upd H p (.lst (ys.map V.str)))
theorem cr_sortedSA : CallR X (.builtin "sorted") (rSortedSA X.K) := by
  intro pins s σ H vs us Q I r h
  obtain ⟨a, xs, rfl, hs, q⟩ := h
  obtain ⟨its, rv, hl, hz⟩ := I.list hs
  rw [Vals.ref1 r]
  refine PyProof.Rows.sorted_strsAny hl.isList rv.strs (by rw [← rv.length]; exact hz) fun out ys h1 h2 h3 => ?_
  obtain ⟨ep, he'⟩ := PyProof.Rows.sortedAll_at s.heap its out
  have hlen : (ys.map V.str).length ≤ sizeLine := by
    rw [List.length_map, h2.length_eq]
    rw [List.length_map] at hz
    exact hz
  exact ⟨.ref _, upd H (s.heap.objs.size + 1) (.lst (ys.map V.str)), I.laid (t' := s.toks) (fun _ _ => PyProof.Rows.sortedAll_old) (Nat.le_succ _) ⟨hlen, out.toList, ep, vals_of_strs h1, he'⟩, rfl, q ys _ h2 h3 (I.hok.fresh (Nat.le_succ _))⟩
/-- sorted(d), a dict whose keys are texts -/
def rSortedDA : List V → Hp → VK → Prop := fun xs H Q => ∃ (a : Addr) (kvs : List (Key × V)) (ks : List Str), xs = [.ref a] ∧ Rd H a (.dK kvs) ∧ kvs.map (·.1) = ks.map Sum.inr ∧
    ∀ ys p, ys.Perm ks → sortedS ys = true → H p = none → Q (.ref p) (upd H p (.lst (ys.map V.str)))
theorem cr_sortedDA (hcalm : X.calm = true) : CallR X (.builtin "sorted") rSortedDA := by
  intro pins s σ H xs us Q I r q
  obtain ⟨a, kvs, ks, ex, hd, hks, q⟩ := q
  subst ex
  obtain ⟨u, eu, rx⟩ := vals1 r
  subst eu
  cases rx
  obtain ⟨z, lo, vs, rel, dd⟩ := dk_rd I.hok hd
  obtain ⟨ep, hat⟩ := dd.dictAt
  have hkeys : vs.map (·.1) = ks.map Sum.inr := rel.keys.symm.trans hks
  have hl : vs.length = ks.length := by
    have e := congrArg List.length hkeys
    rw [List.length_map, List.length_map] at e
    exact e
  have h16 : vs.length ≤ sizeLine := by rw [← rel.length]; exact z
  refine Calls.call_function_entry PyProof.Rows.kind_sorted PyProof.Rows.plain_sorted PyProof.Rows.entry_sorted (PyProof.Rows.args_sorted1 _) ?_
  unfold Builtin.«sorted»
  refine wpAny_bind (m := checkCount "sorted" 1 1 _) (wpAny_pure ?_)
  refine wpAny_bind (PySem.W.kdu_collect (A := X.A.in1) (PySem.W.kdl_dict (knd := mixKind X.prog X.w) (kvs := vs) (ep := ep) lo) (I.ok.hd hcalm) hat h16 fun h' tk acc hk hacc => ?_)
  have hal : acc.toList.length = ks.length := by rw [Array.length_toList, hacc.1, hl]
  have hS : StrsAre acc.toList ks := strs_at hal fun j v e => by
    obtain ⟨k, x, e1, e2⟩ := hacc.2 j v (by rw [← Array.getElem?_toList]; exact e)
    have e3 : (vs.map (·.1))[j]? = some k := by rw [List.getElem?_map, e1]; all_goals rfl
    rw [hkeys, List.getElem?_map] at e3
    cases e4 : ks[j]? with
    | none => rw [e4] at e3; cases e3
    | some y =>
      rw [e4] at e3
      have e5 : Sum.inr y = k := Option.some.inj e3
      subst e5
      obtain ⟨t, ev⟩ := Value.isStrOf_shape (x := y) (v := v) e2
      exact ⟨y, t, rfl, ev⟩
  have I1 : Inv X pins σ H { s with heap := h', toks := tk } := I.kept hk
  have hsl : acc.toList.length ≤ sizeLine := by rw [hal, ← hl]; exact h16
  refine wpAny_bind (wpAny_newList ?_ hsl)
  have hoL : (h'.push (seqObj "list" acc.toList.toArray 0)).get? h'.objs.size = some (seqObj "list" acc.toList.toArray 0) := Heap.get?_push_size _ rfl
  show wpAny _ _ _ _ _ { s with heap := h'.push (seqObj "list" acc.toList.toArray 0), toks := tk }
  refine wpAny_bind (wpAny_holding (wpAny_call_entry PyProof.Rows.slot_list_sort ⟨_, hoL, rfl⟩ PyProof.Rows.entry_list_sort
    (list_sort_treeKAny strKind_oneLt (s := { s with heap := h'.push (seqObj "list" acc.toList.toArray 0), toks := tk }) hoL hS.keysOf (fun v₁ v₂ rest e => keyKind_strs (by rw [← e]; exact hS)) hsl fun st' hp hs => ⟨_, rfl, ?_⟩)
    (PyProof.Rows.args_list_sort _)))
  obtain ⟨ys, g1, g2, g3⟩ := sorted_out_str hS hp hs
  obtain ⟨e', he'⟩ := PyProof.Rows.sortedHeap_at (vs := acc.toList) (out := (arrOf st').map (·.2)) hoL
  have hlen : (ys.map V.str).length ≤ sizeLine := by
    rw [List.length_map, g2.length_eq, ← hl]
    exact h16
  refine wpAny_pure ⟨_, rfl, .ref h'.objs.size, upd H h'.objs.size (.lst (ys.map V.str)), I1.laid (t' := tk) (fun b u e => ?_) (Nat.le_refl _)
    (show ObjOk X.prog X.w _ _ _ (.lst (ys.map V.str)) from ⟨hlen, ((arrOf st').map (·.2)).toList, e', vals_of_strs g1, by rw [Array.toArray_toList]; exact he'⟩), rfl, q ys _ g2 g3 (I1.hok.fresh (Nat.le_refl _))⟩
  have hb : b < h'.objs.size := Heap.lt_size e
  rw [PyProof.Rows.sortedHeap_old (Nat.ne_of_lt hb) (by rw [size_push']; exact Nat.lt_succ_of_lt hb)]
  exact Heap.get?_push_of_some _ e

/-! ### {t: v}, t a tuple of ints and texts -/
def tDispT (tk tv : TE) : TE := fun σ H Q => ∀ p, H p = none → tPairs [(tk, tv)] σ (upd H p (.dT [])) fun ps H2 => H2 p = some (.dT []) ∧ ∃ (k : List Key) (b : Addr) (y : V), ps = [(.ref b, y)] ∧ H2 b = some (.tup (k.map kV)) ∧ Q (.ref p) (upd H2 p (.dT [(k, y)]))
theorem pe_dispT {pos : Pos} {ek ev : Expr} {tk tv : TE} (hu : X.A.units + 1 < cLine) (hk : PE X ek tk) (hv : PE X ev tv) : PE X (.Dict [some ek] [ev] pos) (tDispT tk tv) := by
  refine ⟨fun pins s σ H Q I q => ?_⟩
  have hn := I.hok.fresh (Nat.le_refl s.heap.objs.size)
  have I1 := I.laid (a := s.heap.objs.size) (o := .dT []) (h' := s.heap.push { cls := .type "dict", data := .dict #[] }) (t' := s.toks) (fun _ _ q => Heap.get?_push_of_some _ q) (Nat.le_refl _) (dt_empty s.heap I.big)
  have hp : PPs X pos [some ek] [ev] [(tk, tv)] := pps_cons hk hv pps_nil
  have hroom : (tupleKind (mixKind X.prog X.w)).room X.A := by
    show X.A.units < cLine
    omega
  rw [arm_eval_Dict, zip_pairTrees [some ek] [ev] X.env pos rfl rfl, dictDisplay_pairs (pairTrees [some ek] [ev] X.env pos) (by intro z; cases z) (by show 1 < 17; decide)]
  refine wpAny_bind (wpAny_standAt (wpAny_bind (wpAny_subDictH (knd := tupleKind (mixKind X.prog X.w)) hroom (by show 1 ≤ 15; decide) (thn (hp.run pins _ σ _ _ I1 (q _ hn)) fun ws s2 ⟨ps, H2, I2, rel, e, k, b, y, ep, hb, q2⟩ => ?_))))
  subst ep
  cases rel with
  | @cons _ v1 _ r1 h1 t1 =>
    cases t1
    obtain ⟨kv, vv⟩ := v1
    obtain ⟨hx, hy⟩ := h1
    cases (show kv = Value.ref b from hx)
    obtain ⟨z, hd, xs, r0, dd⟩ := dt_of I2.hok e
    cases r0
    refine ⟨[(k, b, vv)], ⟨rfl, rfl, key_of I2.hok hb, True.intro⟩, dd, fun h' tk' dd' hs => wpAny_pure ⟨.ref s.heap.objs.size, _, ?_, rfl, q2⟩⟩
    obtain ⟨ob, es, ep2, hq, g2, g3, g4, _, g5⟩ := dd'
    have ne : b ≠ s.heap.objs.size := ne_of hb e (by intro z; cases z)
    refine d_write (t' := tk') I2 (by rw [e]; exact True.intro) hs ⟨ob, hq⟩ ⟨by show 1 ≤ sizeLine; decide, hd, [(k, b, vv)], .cons ⟨rfl, by show (upd H2 _ _) b = _; rw [upd_ne ne]; exact hb, hy⟩ .nil, ob, es, ep2, hq, g2, g3, g4, g5⟩
end
end G
set_option Elab.async false
set_option linter.all false
set_option maxRecDepth 100000
set_option maxHeartbeats 4000000
/-! set(text): the signs of a text, each once. -/
namespace G
open PySem PySem.Spec PyProof.Rows L2
def putOnce (l : List Str) (x : Str) : List Str := if l.any (· == x) then l else l ++ [x]
/-- what was met among the first i -/
def metS (val : Nat → Str) : Nat → List Str
  | 0 => []
  | i + 1 => putOnce (metS val i) (val i)
theorem metS_len (val : Nat → Str) : ∀ i, (metS val i).length ≤ i
  | 0 => Nat.le_refl _
  | i + 1 => by
    have ih := metS_len val i
    unfold metS putOnce
    split
    · omega
    · rw [List.length_append, List.length_singleton]; omega
theorem putOnce_any (σ : List Str) (v k : Str) : (putOnce σ v).any (· == k) = (σ.any (· == k) || decide (k = v)) := by
  unfold putOnce
  by_cases h : σ.any (· == v) = true
  · rw [if_pos h]
    by_cases e : k = v
    · subst e; rw [h]; simp
    · simp [e]
  · rw [if_neg h, List.any_append]
    by_cases e : k = v
    · subst e; simp
    · have hb : (v == k) = false := by simpa [beq_iff_eq] using (fun h' : v = k => e h'.symm)
      simp [hb, e]
theorem putOnce_length (σ : List Str) (v : Str) : (putOnce σ v).length = if σ.any (· == v) then σ.length else σ.length + 1 := by
  unfold putOnce; split <;> simp
section
variable {prog : Program} {w : World} {A : Around} {R : Result → Shared → Prop} {I : Addr} {fp wr : List Addr} {G : Array GenState → Array GenState → Prop} {n : Nat} {P : Nat → Value → Prop} {St : Nat → Shared → Prop}
theorem loopTxt (W : WalksS prog w A.in1 I fp wr G n P St) (S : Addr) (hSf : S ∉ fp) (val : Nat → Str) (hb : n + 1 < scanBound)
    (hval : ∀ i v, P i v → ∃ t, v = .str (val i) t) :
    ∀ (k i : Nat) (s : Shared), n - i = k → i ≤ n → St i s →
      s.heap.SetOf (PySem.strKind prog w) S (fun k' => (metS val i).any (· == k')) (metS val i).length →
      (∀ s', Moved (S :: wr) G s s' → s'.heap.SetOf (PySem.strKind prog w) S (fun k' => (metS val n).any (· == k')) (metS val n).length → R (.ok (.ret .none)) s') →
      codeAny (model prog w) A (.builtin "set.update.loop" ⟨[.ref S, .ref I], []⟩) R s := by
  have hSw : S ∉ wr := fun h => hSf (W.sub _ h)
  have hsub : ∀ b ∈ wr, b ∈ S :: wr := fun b hb => List.mem_cons_of_mem _ hb
  intro k
  induction k with
  | zero =>
    intro i s hk hi hst hS hR
    have hin : i = n := by omega
    subst hin
    refine codeAny_builtin PyProof.Rows.F.entry_set_update_loop ?_
    rw [Around.under_plainId PyProof.Rows.F.plain_set_update_loop _]
    show wpAny _ A.in1 (pyNext (.ref I) >>= _) _ _ s
    refine wpAny_bind (W.done s _ _ hst fun s' hm => ?_)
    show wpAny _ A.in1 (ret Value.none) _ _ s'
    exact wpAny_pure (hR s' (hm.mono hsub) (by
      obtain ⟨o, es, ep, t, ho, rest⟩ := hS
      exact ⟨o, es, ep, t, hm.heap S _ hSw ho, rest⟩))
  | succ k ih =>
    intro i s hk hi hst hS hR
    have hlt : i < n := by omega
    refine codeAny_builtin PyProof.Rows.F.entry_set_update_loop ?_
    rw [Around.under_plainId PyProof.Rows.F.plain_set_update_loop _]
    show wpAny _ A.in1 (pyNext (.ref I) >>= _) _ _ s
    refine wpAny_bind (W.item i s _ _ hlt hst fun v s' hP hst' hm => ?_)
    obtain ⟨t, rfl⟩ := hval i v hP
    have hS' : s'.heap.SetOf (PySem.strKind prog w) S (fun k' => (metS val i).any (· == k')) (metS val i).length := by
      obtain ⟨o, es, ep, tb, ho, rest⟩ := hS
      exact ⟨o, es, ep, tb, hm.heap S _ hSw ho, rest⟩
    show wpAny _ A.in1 (holding [Value.str (val i) t] (setAdd S (.str (val i) t)) >>= _) _ _ s'
    refine wpAny_bind (wpAny_holding ?_)
    unfold setAdd
    refine wpAny_holding ?_
    refine wpAny_bind ((PySem.strKind prog w).pyHash (k := val i) (strKind_is _ _ _ _) ?_)
    have hroom : (metS val i).length + 1 < scanBound := by have := metS_len val i; omega
    refine wpAny_setAddHashed_of (knd := PySem.strKind prog w) (s := { s' with toks := s'.toks + 1 }) (strKind_is _ _ _ _) rfl hS' hroom fun h' hsb hS2 => ?_
    have hSi : h'.SetOf (PySem.strKind prog w) S (fun k' => (metS val (i + 1)).any (· == k')) (metS val (i + 1)).length :=
      SetOf_congr hS2 (fun k' => by show _ = (putOnce (metS val i) (val i)).any (· == k'); rw [putOnce_any]) (by show _ = (putOnce (metS val i) (val i)).length; rw [putOnce_length])
    refine wpAny_pure ⟨plainId_quiet PyProof.Rows.F.plain_set_update_loop _, ih (i + 1) _ (by omega) hlt (W.frame _ s' _ _ hst' (Nat.le_succ _) fun b hb o e => ?_) hSi fun s'' hm'' hS'' => ?_⟩
    · rw [hsb.2 b (fun h : b = S => hSf (by rw [← h]; exact hb))]; exact e
    · refine hR s'' (Moved.trans W.gtrans ((hm.mono hsub).then_heap (Nat.le_succ _) fun b o hb e => ?_) hm'') hS''
      rw [hsb.2 b (fun h : b = S => hb (by rw [h]; exact List.mem_cons_self))]; exact e
end
/-- the sign at a place, as a text -/
def signOf (x : Str) (i : Nat) : Str := ⟨#[x.cps.getD i 0]⟩
theorem signAt_val {x : Str} {i : Nat} {v : Value} (h : SignAt x i v) : ∃ t, v = .str (signOf x i) t := by
  obtain ⟨c, u, e, rfl⟩ := h
  refine ⟨u, ?_⟩
  unfold signOf
  rw [Array.getD_eq_getD_getElem?, e]
  rfl
section
variable {prog : Program} {w : World} {A : Around} {E : Value → Shared → Prop} {s : Shared}
set_option maxHeartbeats 6400000 in
theorem call_set_text {x : Str} {tx : Tok} {Q : Value → Shared → Prop}
    (hh : A.handled = none) (hn1 : x.cps.size + 1 < scanBound)
    (h : ∀ (h' : Heap) (tk : Nat), h'.SetOf (PySem.strKind prog w) s.heap.objs.size (fun k' => (metS (signOf x) x.cps.size).any (· == k')) (metS (signOf x) x.cps.size).length →
      (∀ b o, b < s.heap.objs.size → s.heap.get? b = some o → h'.get? b = some o) → Q (.ref s.heap.objs.size) { s with heap := h', toks := tk }) :
    wpAny (model prog w) A (call (.type "set") [.str x tx]) Q E s := by
  obtain ⟨c, tl, hmro⟩ := PySem.F.called_set.mro
  have hmade := PySem.F.called_set.made
  have hsub := PySem.F.called_set.sub
  refine wpAny_call (codeAny_of_tree ?_)
  show wpAny _ _ (callAny (.type "set") _) _ _ _
  refine wpAny_pure ⟨Code.quiet_builtin _ (by decide +kernel), codeAny_builtin PySem.F.entry_type_call ?_⟩
  rw [Around.under_plain (weight_type_call_type "set" [.str x tx] []) rfl]
  have h1 := PySem.F.called_set.notType
  have h2 := PySem.F.called_set.canCreate
  have hct := PySem.F.typeCall_set_1 (.str x tx)
  repeat (any_goals (first | assumption | wp_step))

  refine codeAny_mono (code_set_new_1 (.str x tx) (E := E) (Q₁ := fun obj s₁ => ∃ led : Bool, obj = .ref s.heap.objs.size ∧ s₁ = { s with heap := s.heap.push { cls := .type "set", dict := none, data := .set #[] 0 (.fresh 0 0 led) } }) fun led => ⟨led, rfl, rfl⟩) fun r s₁ hr => ?_
  cases r with
  | error e => exact hr
  | ok fl =>
    cases fl with
    | ret obj =>
      obtain ⟨led, rfl, rfl⟩ := hr
      have hS : (s.heap.push { cls := .type "set", dict := none, data := .set #[] 0 (.fresh 0 0 led) }).get? s.heap.objs.size = some { cls := .type "set", dict := none, data := .set #[] 0 (.fresh 0 0 led) } := Heap.get?_push_size _ rfl
      have hT : Shared.TypeIs { s with heap := s.heap.push { cls := .type "set", dict := none, data := .set #[] 0 (.fresh 0 0 led) } } (.ref s.heap.objs.size) "set" := ⟨_, hS, rfl⟩
      have hli := PySem.F.called_set.init.lookup
      have hbi := PySem.F.called_set.init.bind (.ref s.heap.objs.size)
      repeat (any_goals (first | assumption | wp_step))

      refine codeAny_mono (codeAny_call_builtin (R := wants (fun r s₂ => r = .none ∧ ∃ h' tk, s₂ = { s with heap := h', toks := tk } ∧
          h'.SetOf (PySem.strKind prog w) s.heap.objs.size (fun k' => (metS (signOf x) x.cps.size).any (· == k')) (metS (signOf x) x.cps.size).length ∧
          (∀ b o, b < s.heap.objs.size → s.heap.get? b = some o → h'.get? b = some o)) E) PySem.F.called_set.init.plain PySem.F.entry_set_init (check_set_init_1 hT ?_)) fun r₂ s₂ hr₂ => ?_
      · have hsls := PySem.F.sub_str_set
        have hslf := PySem.F.sub_str_frozenset
        have hne : (Value.type "str" == Value.type "dict") = false := by decide
        unfold Builtin.«set.__init__» noKeywords Builtin.Frozenset.updateFrom
        generalize hPI : pyIter = PI
        wp_walk
        subst hPI
        refine wpAny_pyIter_str fun oI StI hW hSt0 => ?_
        refine wpAny_bind (wpAny_runValue ?_)
        have hh3 : A.in1.in1.in1.handled = none := by simp [hh]
        have hSf : s.heap.objs.size ∉ [(s.heap.push { cls := .type "set", dict := none, data := .set #[] 0 (.fresh 0 0 led) }).objs.size] := by
          rw [Heap.size_push]; simp only [List.mem_cons, List.mem_singleton, List.not_mem_nil, or_false, not_or]
          exact Nat.ne_of_lt (Nat.lt_succ_self _)
        refine loopTxt ((hW _ hh3).toS) s.heap.objs.size
          hSf (signOf x) hn1 (fun i v hv => signAt_val hv) (x.cps.size - 0) 0 _ (by omega) (Nat.zero_le _)
          hSt0 ?hS0 ?hR
        case hS0 =>
          have hget : ((s.heap.push { cls := .type "set", dict := none, data := .set #[] 0 (.fresh 0 0 led) }).push oI).get? s.heap.objs.size
              = some { cls := .type "set", dict := none, data := .set #[] 0 (.fresh 0 0 led) } := Heap.get?_push_of_some _ hS
          exact PyProof.Rows.SetOf_congr ((PyProof.Rows.setObjOf_fresh (knd := PySem.strKind prog w) led).setOf hget (by unfold scanBound; omega)) (fun _ => rfl) rfl
        case hR =>
          intro s' hm hS'
          obtain ⟨h', g', d', tk', os'⟩ := s'
          have eg : g' = s.gens := hm.gens
          have ed : d' = s.drawn := hm.drawn
          have eo : os' = s.os := hm.os
          subst eg; subst ed; subst eo
          show wpAny _ _ _ _ _ _
          refine wpAny_pure ?_
          show wpAny _ _ (ret Value.none) _ _ _
          refine wpAny_pure ⟨rfl, h', tk', rfl, hS', fun b o hb e => ?_⟩
          have hb1 : b ≠ s.heap.objs.size := Nat.ne_of_lt hb
          have hb2 : b ≠ (s.heap.push { cls := .type "set", dict := none, data := .set #[] 0 (.fresh 0 0 led) }).objs.size := by
            rw [Heap.size_push]; exact Nat.ne_of_lt (Nat.lt_succ_of_lt hb)
          exact hm.heap b o (by simp only [List.mem_cons, List.mem_singleton, List.not_mem_nil, or_false, not_or]; exact ⟨hb1, hb2⟩) (Heap.get?_push_of_some _ (Heap.get?_push_of_some _ e))

      · cases r₂ with
        | error e => exact hr₂
        | ok fl₂ =>
          cases fl₂ with
          | ret r =>
            obtain ⟨rfl, h', tk, rfl, hS', hk'⟩ := hr₂
            repeat (any_goals (first | assumption | wp_step))
            exact h _ _ hS' hk'
          | _ => exact hr₂.elim
    | _ => exact hr.elim
end
section
variable {X : Cx}
/-- len(set(text)) -/
def tLenSetX (ta : TE) : TE := fun σ H Q => ta σ H fun x H1 => ∃ z : Str, x = .str z ∧ z.cps.size < 1000 ∧ Q (.int (metS (signOf z) z.cps.size).length) H1
theorem pe_lenSetX {a : Expr} {ta : TE} {p p2 q pos : Pos} (hc : X.calm = true) (hg : Gl X "len") (hm : X.mg "len" = none) (hg2 : Gl X "set") (hm2 : X.mg "set" = none) (ha : PE X a ta)
    (na : starEach [a] X.env = (false, eval a X.env) :: starEach [] X.env := by rfl) : PE X (.Call (.Name "len" p) [.Call (.Name "set" p2) [a] [] q] [] pos) (tLenSetX ta) := by
  refine ⟨fun pins s σ H Q I h => ?_⟩
  refine Call_ (ld_blt I hg hm boot_len ?_)
  refine PyProof.Rows.callWith_builtin1 (PyProof.Rows.args_cons ?_ rfl) rfl rfl
  refine Call_ (ld_blt I hg2 hm2 boot_set ?_)
  refine PyProof.Rows.callWith_type1 (PyProof.Rows.args_cons (thn (ha.run pins s σ H _ I h) fun v s1 ⟨x, H1, I1, r1, q1⟩ => PyProof.Rows.args_nil ?_) na) na rfl
  obtain ⟨z, rfl, hz, q1⟩ := q1
  obtain ⟨t, rfl⟩ := r1
  have hsb : z.cps.size + 1 < scanBound := by unfold scanBound; omega
  refine call_set_text (I1.ok.hd hc) hsb fun h' tk hS hk => ?_
  refine PyProof.Rows.args_nil ?_
  obtain ⟨o, es, ep, t, ho, hex, hd, _, _, _, hf, hn⟩ := hS
  have I2 : Inv X pins σ H1 { s1 with heap := h', toks := tk } := I1.kept fun b o e => hk b o (Heap.lt_size e) e
  have hlen := metS_len (signOf z) z.cps.size
  refine call_len_set ho hex hd hf (by rw [hn]; omega) ⟨.int (metS (signOf z) z.cps.size).length, H1, I2.tok _, ⟨_, by rw [hn]⟩, q1⟩
end
end G
set_option Elab.async false
set_option linter.all false
set_option maxRecDepth 100000
set_option maxHeartbeats 4000000
/-! enumerate(text) in a for. -/
namespace G
open PySem PySem.Spec PyProof.Rows L2
/-- the signs of a text, each in a new pair -/
def Iten (x : Str) : It :=
  ⟨fun i _ => i < x.cps.size, fun i H v H' => ∃ T c, v = .ref T ∧ H T = none ∧ H' = upd H T (.tup [.int (i : Nat), .str ⟨#[c]⟩]) ∧ x.cps[i]? = some c, fun i _ => x.cps.size ≤ i⟩
theorem turn_enumS {P : Program} {w : World} {K : PySem.W.Frag} {elts : List Expr} {kk : Nat} {tpos : Pos} (x : Str) (t : Tok) (e it : Addr) :
    Turn P w K (.Tuple elts kk tpos) (Iten x) [e, it] e (fun i h => (∃ old, IsEnum h e it ((i : Nat) : Int) old) ∧ h.IsStrIter it (strIterType x) x t i ∧ e ≠ it ∧ i ≤ x.cps.size) where
  mem := by simp
  obj := fun i h st b hb => by
    obtain ⟨⟨old, he⟩, ⟨o, ho, hc, hd⟩, _⟩ := st
    have e' : b = e ∨ b = it := by simpa using hb
    rcases e' with z | z
    · rw [z]; exact ⟨_, he, fun v q => nomatch q⟩
    · rw [z]; exact ⟨o, ho, fun v q => by rw [hd] at q; cases q⟩
  keep := fun i h h' st k => let ⟨⟨old, he⟩, ⟨o, ho, r⟩, hne⟩ := st; ⟨⟨old, k e (by simp) _ he⟩, ⟨o, k it (by simp) o ho, r⟩, hne⟩
  item := by
    intro X hP hw hK hc i pins s σ H E I hf st hg
    subst hP hw hK
    obtain ⟨⟨old, he⟩, hit, hne, hle⟩ := st
    have hel : e < s.heap.objs.size := Heap.lt_size he
    have hil : it < s.heap.objs.size := by obtain ⟨_, q, _⟩ := hit; exact Heap.lt_size q
    have hh : X.A.in1.handled = none := by simp [I.ok.hd hc]
    refine wpAny_pyNext_enum_itemD (Draws.text hh it x t) he hit hg hne (by simpa using hne) fun v h' tk hP ho hit' hT hsz hk => ?_
    obtain ⟨c, u, hcx, rfl⟩ := hP
    refine ⟨_, rfl, wpAny_letOwnedTupleGo_enum (s := { s with heap := h', toks := tk + 1 }) ho fun h'' he' sb => ?_⟩
    have hT2 : h''.get? s.heap.objs.size = some { cls := .type "tuple", data := .seq #[.int i tk, .str ⟨#[c]⟩ u] } := (sb.2 _ (Nat.ne_of_gt hel)).trans hT
    have new : ObjOk X.prog X.w (upd H s.heap.objs.size (.tup [.int (i : Nat), .str ⟨#[c]⟩])) h'' s.heap.objs.size (.tup [.int (i : Nat), .str ⟨#[c]⟩]) :=
      ⟨by show 2 ≤ sizeLine; decide, [.int i tk, .str ⟨#[c]⟩ u], .cons ⟨_, rfl⟩ (.cons ⟨_, rfl⟩ .nil), ⟨_, hT2, rfl, _, rfl⟩⟩
    have I1 : Inv X pins σ (upd H s.heap.objs.size (.tup [.int (i : Nat), .str ⟨#[c]⟩])) { s with heap := h'', toks := tk + 1 } :=
      I.turnedNew (ch := [e, it]) (fun b ob hb q => (sb.2 b (fun z => hb (by simp [z]))).trans (hk b ob (fun z => hb (by simp [z])) (fun z => hb (by simp [z])) q)) hf (Nat.le_refl _) new
    refine ⟨.ref s.heap.objs.size, _, I1, rfl, ⟨_, c, rfl, I.hok.fresh (Nat.le_refl _), rfl, hcx⟩, ⟨⟨.str ⟨#[c]⟩ u, ?_⟩, ?_, hne, hg⟩, fun b hb => ?_⟩
    · have e1 : ((i + 1 : Nat) : Int) = (i : Int) + 1 := by omega
      rw [e1]; exact he'
    · obtain ⟨o, ho', r⟩ := hit'
      exact ⟨o, (sb.2 it (Ne.symm hne)).trans ho', r⟩
    · have hb' : b < s.heap.objs.size := by
        have e' : b = e ∨ b = it := by simpa using hb
        rcases e' with z | z
        · rw [z]; exact hel
        · rw [z]; exact hil
      rw [upd_ne (Nat.ne_of_lt hb')]
      exact (hf b hb).1
  done := by
    intro X hP hw hK hc i pins s σ H E I hf st hg
    subst hP hw hK
    obtain ⟨⟨old, he⟩, hit, hne, hle⟩ := st
    obtain ⟨f0, f1, f2, f3, f4, f5⟩ := hf it (by simp)
    have hh : X.A.in1.handled = none := by simp [I.ok.hd hc]
    have ei : i = x.cps.size := Nat.le_antisymm hle hg
    subst ei
    exact wpAny_pyNext_enum_endD (Draws.text hh it x t) he hit fun h' eb => ⟨rfl, I.turned (t' := s.toks) (fun b o hb q => eb b o hb q) f0 f1 f3 f4 f5⟩
  self := fun A i s Q E st h => let ⟨⟨_, he⟩, _⟩ := st; wpAny_pyIter_enum he h
def iEnumS (ta : TA) : TI := fun σ H R => ta σ H fun vs H1 => ∃ x, vs = [.str x] ∧ R (Iten x) H1
theorem pi_enumS {X : Cx} {e : Expr} {ta : TA} {p pos tpos : Pos} {elts : List Expr} {kk : Nat} (hg : Gl X "enumerate") (hm : X.mg "enumerate" = none) (ha : PA X [e] ta) (hs : starEach [e] X.env = [(false, eval e X.env)] := by rfl) :
    PI X (.Tuple elts kk tpos) (.Call (.Name "enumerate" p) [e] [] pos) (iEnumS ta) := by
  refine ⟨fun pins s σ H R I h => ?_⟩
  refine Call_ (ld_blt I hg hm boot_enumerate (PyProof.Rows.callWith_type1 (thn (ha.run pos pins s σ H _ I h) fun us s1 ⟨vs, H1, I1, r1, q1⟩ => ?_) hs rfl))
  obtain ⟨x, ex, q⟩ := q1
  subst ex
  cases r1 with
  | cons r rr =>
    cases rr
    obtain ⟨t, rfl⟩ := r
    refine call_enumerate_str fun h' he hit hsz hk => wpAny_pyIter_enum he ?_
    have I2 : Inv X pins σ H1 { s1 with heap := h' } := I1.kept (t' := s1.toks) hk
    refine ⟨s1.heap.objs.size + 1, [s1.heap.objs.size + 1, s1.heap.objs.size], _, _, H1, rfl, I2, turn_enumS x t (s1.heap.objs.size + 1) s1.heap.objs.size, ⟨⟨.none, he⟩, hit, Nat.succ_ne_self _, Nat.zero_le _⟩, fun b hb => ?_, q⟩
    have e' : b = s1.heap.objs.size + 1 ∨ b = s1.heap.objs.size := by simpa using hb
    have hle : s1.heap.objs.size ≤ b := by
      rcases e' with z | z
      · rw [z]; exact Nat.le_add_right _ _
      · rw [z]; exact Nat.le_refl _
    exact I1.fpOk hle (I1.hok.fresh hle)
end G
set_option linter.all false
/-! The plain law, part 1: turns of a word, its least turn, cuts of a ring, partings. No program in sight. -/
namespace Rg
abbrev W := List Nat
/-! ### turns -/
def rot (f : W) (i : Nat) : W := f.drop i ++ f.take i
theorem rot_len (f : W) (i : Nat) : (rot f i).length = f.length := by
  unfold rot
  rw [List.length_append, List.length_drop, List.length_take]
  omega
theorem rot_app (a b : W) : rot (a ++ b) a.length = b ++ a := by
  unfold rot
  rw [List.drop_left, List.take_left]
/-- one is a turn of the other -/
def Sim (f g : W) : Prop := ∃ a b, f = a ++ b ∧ g = b ++ a
theorem Sim.refl (f : W) : Sim f f := ⟨[], f, rfl, by simp⟩
theorem Sim.symm {f g : W} (h : Sim f g) : Sim g f := by
  obtain ⟨a, b, e1, e2⟩ := h
  exact ⟨b, a, e2, e1⟩
theorem Sim.trans {f g h : W} (x : Sim f g) (y : Sim g h) : Sim f h := by
  obtain ⟨a, b, rfl, rfl⟩ := x
  obtain ⟨c, d, e, rfl⟩ := y
  rcases List.append_eq_append_iff.mp e with ⟨t, e1, e2⟩ | ⟨t, e1, e2⟩
  · subst e1 e2
    exact ⟨t, d ++ b, by simp, by simp⟩
  · subst e1 e2
    exact ⟨a ++ c, t, by simp, by simp⟩
theorem Sim.len {f g : W} (h : Sim f g) : f.length = g.length := by
  obtain ⟨a, b, rfl, rfl⟩ := h
  simp [Nat.add_comm]
theorem Sim.rot (f : W) (i : Nat) : Sim f (rot f i) := ⟨f.take i, f.drop i, (List.take_append_drop i f).symm, rfl⟩
theorem Sim.at {f g : W} (h : Sim f g) (hf : f ≠ []) : ∃ i, i < f.length ∧ g = Rg.rot f i := by
  obtain ⟨a, b, rfl, rfl⟩ := h
  cases b with
  | nil =>
    refine ⟨0, List.length_pos_iff.mpr hf, ?_⟩
    simp [Rg.rot]
  | cons x b =>
    exact ⟨a.length, by simp, (rot_app a (x :: b)).symm⟩
theorem Sim.mem {f g : W} (h : Sim f g) (x : Nat) : x ∈ f ↔ x ∈ g := by
  obtain ⟨a, b, rfl, rfl⟩ := h
  simp [or_comm]
theorem Sim.ne {f g : W} (h : Sim f g) (hf : f ≠ []) : g ≠ [] := by
  intro e
  have l := h.len
  rw [e] at l
  exact hf (List.length_eq_zero_iff.mp l)
def rots (f : W) : List W := (List.range f.length).map (rot f)
theorem mem_rots {f g : W} (hf : f ≠ []) : g ∈ rots f ↔ Sim f g := by
  unfold rots
  rw [List.mem_map]
  constructor
  · rintro ⟨i, _, rfl⟩
    exact Sim.rot f i
  · intro h
    obtain ⟨i, hi, e⟩ := h.at hf
    exact ⟨i, List.mem_range.mpr hi, e.symm⟩
/-! ### the order -/
theorem wlt_tri (a b : W) (h1 : ¬ a < b) (h2 : ¬ b < a) : a = b := List.le_antisymm (List.not_lt.mp h2) (List.not_lt.mp h1)
theorem wlt_conn (a b : W) : a < b ∨ a = b ∨ b < a := by
  by_cases h1 : a < b
  · exact .inl h1
  · by_cases h2 : b < a
    · exact .inr (.inr h2)
    · exact .inr (.inl (wlt_tri a b h1 h2))
/-- the least one of a list -/
def IsLeast (m : W) (l : List W) : Prop := m ∈ l ∧ ∀ y ∈ l, ¬ y < m
theorem IsLeast.uniq {m n : W} {l k : List W} (h : IsLeast m l) (h' : IsLeast n k) (e : ∀ x, x ∈ l ↔ x ∈ k) : m = n :=
  wlt_tri m n (h'.2 m ((e m).mp h.1)) (h.2 n ((e n).mpr h'.1))
def least : W → List W → W
  | m, [] => m
  | m, x :: l => least (if x < m then x else m) l
theorem least_spec : ∀ (l : List W) (m : W), IsLeast (least m l) (m :: l)
  | [], m => ⟨List.mem_cons_self, fun y hy => by
      rw [List.mem_singleton] at hy
      rw [hy]
      exact List.lt_irrefl _⟩
  | x :: l, m => by
    unfold least
    obtain ⟨h1, h2⟩ := least_spec l (if x < m then x else m)
    by_cases c : x < m
    · rw [if_pos c] at h1 h2 ⊢
      refine ⟨?_, fun y hy => ?_⟩
      · rcases List.mem_cons.mp h1 with e | h
        · rw [e]; simp
        · exact List.mem_cons_of_mem _ (List.mem_cons_of_mem _ h)
      · rcases List.mem_cons.mp hy with e | hy
        · subst e
          intro q
          exact h2 x List.mem_cons_self (List.lt_trans c q)
        · exact h2 y hy
    · rw [if_neg c] at h1 h2 ⊢
      refine ⟨?_, fun y hy => ?_⟩
      · rcases List.mem_cons.mp h1 with e | h
        · rw [e]; simp
        · exact List.mem_cons_of_mem _ (List.mem_cons_of_mem _ h)
      · rcases List.mem_cons.mp hy with e | hy
        · rw [e]
          exact h2 m List.mem_cons_self
        · rcases List.mem_cons.mp hy with e | hy
          · subst e
            intro q
            have h3 := h2 m List.mem_cons_self
            rcases wlt_conn y m with z | z | z
            · exact c z
            · rw [z] at q; exact h3 q
            · exact h3 (List.lt_trans z q)
          · exact h2 y (List.mem_cons_of_mem _ hy)
/-- a ring's name -/
def lturn (f : W) : W := least (rot f 0) (rots f)
theorem lturn_spec {f : W} (hf : f ≠ []) : IsLeast (lturn f) (rots f) := by
  obtain ⟨h1, h2⟩ := least_spec (rots f) (rot f 0)
  have h0 : rot f 0 ∈ rots f := (mem_rots hf).mpr (Sim.rot f 0)
  refine ⟨?_, fun y hy => h2 y (List.mem_cons_of_mem _ hy)⟩
  rcases List.mem_cons.mp h1 with e | h
  · show least _ _ ∈ _
    rw [e]; exact h0
  · exact h
theorem lturn_uniq {f m : W} (hf : f ≠ []) (h : IsLeast m (rots f)) : m = lturn f := h.uniq (lturn_spec hf) fun _ => Iff.rfl
theorem lturn_sim {f : W} (hf : f ≠ []) : Sim f (lturn f) := (mem_rots hf).mp (lturn_spec hf).1
theorem lturn_of_sim {f g : W} (hf : f ≠ []) (h : Sim f g) : lturn f = lturn g :=
  (lturn_spec hf).uniq (lturn_spec (h.ne hf)) fun x => by
    rw [mem_rots hf, mem_rots (h.ne hf)]
    exact ⟨fun a => h.symm.trans a, fun a => h.trans a⟩
theorem lturn_iff {f g : W} (hf : f ≠ []) (hg : g ≠ []) : lturn f = lturn g ↔ Sim f g :=
  ⟨fun e => (lturn_sim hf).trans (e ▸ (lturn_sim hg).symm), lturn_of_sim hf⟩
theorem lturn_len {f : W} (hf : f ≠ []) : (lturn f).length = f.length := (lturn_sim hf).len.symm
theorem lturn_ne {f : W} (hf : f ≠ []) : lturn f ≠ [] := (lturn_sim hf).ne hf
theorem lturn_idem {f : W} (hf : f ≠ []) : lturn (lturn f) = lturn f := (lturn_of_sim hf (lturn_sim hf)).symm
/-! ### cuts of a ring -/
def Cut (f h : W) : Prop := ∃ x u v, Sim f (x :: (u ++ x :: v)) ∧ Sim (x :: v) h
theorem Cut.left {f f' h : W} (s : Sim f' f) (c : Cut f h) : Cut f' h := by
  obtain ⟨x, u, v, a, b⟩ := c
  exact ⟨x, u, v, s.trans a, b⟩
theorem Cut.right {f h h' : W} (s : Sim h h') (c : Cut f h) : Cut f h' := by
  obtain ⟨x, u, v, a, b⟩ := c
  exact ⟨x, u, v, a, b.trans s⟩
theorem Cut.len {f h : W} (c : Cut f h) : 1 ≤ h.length ∧ h.length < f.length := by
  obtain ⟨x, u, v, a, b⟩ := c
  have l1 := a.len
  have l2 := b.len
  simp at l1 l2
  omega
theorem Cut.sub {f h : W} (c : Cut f h) {y : Nat} (hy : y ∈ h) : y ∈ f := by
  obtain ⟨x, u, v, a, b⟩ := c
  rw [a.mem]
  have := (b.mem y).mpr hy
  simp at this ⊢
  rcases this with e | e
  · exact .inl e
  · exact .inr (.inr (.inr e))
/-- the words that the program makes of a ring by a cut, place by place (their names, with repetitions) -/
def cutsAt (now : W) : List W := ((List.range now.length).filter fun s => decide (1 ≤ s) && (now[s]? == now[0]?)).map fun s => lturn (now.take 1 ++ now.drop (s + 1))
def rn (f : W) : List W := (List.range f.length).flatMap fun i => cutsAt (rot f i)
theorem mem_rn {f g : W} (hf : f ≠ []) : g ∈ rn f ↔ ∃ h, Cut f h ∧ g = lturn h := by
  unfold rn cutsAt
  simp only [List.mem_flatMap, List.mem_map, List.mem_filter, List.mem_range, Bool.and_eq_true, decide_eq_true_eq, beq_iff_eq]
  constructor
  · rintro ⟨i, hi, s, ⟨hs, h1, h2⟩, rfl⟩
    have hr := Sim.rot f i
    have hl := rot_len f i
    generalize rot f i = now at *
    cases now with
    | nil => simp at hs
    | cons x r =>
      cases s with
      | zero => omega
      | succ s =>
        have hs' : s < r.length := by simpa using hs
        have e : r[s]? = some x := by simpa using h2
        have es : r = r.take s ++ x :: r.drop (s + 1) := by
          have hx : r[s] = x := by
            rw [List.getElem?_eq_getElem hs'] at e
            exact Option.some.inj e
          conv => lhs; rw [← List.take_append_drop s r]
          rw [List.drop_eq_getElem_cons hs', hx]
        refine ⟨x :: r.drop (s + 1), ⟨x, r.take s, r.drop (s + 1), ?_, Sim.refl _⟩, ?_⟩
        · rw [← es]; exact hr
        · simp
  · rintro ⟨h, ⟨x, u, v, a, b⟩, rfl⟩
    obtain ⟨i, hi, e⟩ := a.at hf
    refine ⟨i, hi, u.length + 1, ⟨?_, by omega, ?_⟩, ?_⟩
    · rw [← e]; simp
    · rw [← e]; simp
    · rw [← e]
      have e2 : (x :: (u ++ x :: v)).take 1 ++ (x :: (u ++ x :: v)).drop (u.length + 1 + 1) = x :: v := by
        simp [List.drop_append]
      rw [e2]
      exact (lturn_of_sim (by simp) b)
theorem rn_sim {f g : W} (hf : f ≠ []) (h : Sim f g) (x : W) : x ∈ rn f ↔ x ∈ rn g := by
  rw [mem_rn hf, mem_rn (h.ne hf)]
  constructor
  · rintro ⟨y, c, e⟩
    exact ⟨y, c.left h.symm, e⟩
  · rintro ⟨y, c, e⟩
    exact ⟨y, c.left h, e⟩
/-- what the names in rn f look like -/
theorem rn_good {f g : W} (hf : f ≠ []) (h : g ∈ rn f) : g ≠ [] ∧ g.length < f.length ∧ lturn g = g ∧ ∀ y ∈ g, y ∈ f := by
  obtain ⟨k, c, rfl⟩ := (mem_rn hf).mp h
  have l := c.len
  have hk : k ≠ [] := by
    intro e
    rw [e] at l
    simp at l
  refine ⟨lturn_ne hk, by rw [lturn_len hk]; exact l.2, lturn_idem hk, fun y hy => c.sub ((lturn_sim hk).mem y |>.mpr hy)⟩
/-! ### rows of cuts, by names -/
inductive Steps : Nat → W → W → Prop where
  | zero (f : W) : Steps 0 f f
  | succ {k : Nat} {f g h : W} : Steps k f g → h ∈ rn g → Steps (k + 1) f h
/-- rows of cuts, of rings -/
inductive Rw : Nat → W → W → Prop where
  | zero {f g : W} : Sim f g → Rw 0 f g
  | succ {k : Nat} {f h g : W} : Cut f h → Rw k h g → Rw (k + 1) f g
theorem Rw.left {k : Nat} {f f' g : W} (s : Sim f' f) (r : Rw k f g) : Rw k f' g := by
  cases r with
  | zero a => exact .zero (s.trans a)
  | succ c r => exact .succ (c.left s) r
theorem Rw.right {k : Nat} {f g g' : W} (s : Sim g g') (r : Rw k f g) : Rw k f g' := by
  induction r with
  | zero a => exact .zero (a.trans s)
  | succ c r ih => exact .succ c (ih s)
theorem Rw.snoc {k : Nat} {f g h : W} (r : Rw k f g) (c : Cut g h) : Rw (k + 1) f h := by
  induction r with
  | zero a => exact .succ (c.left a) (.zero (Sim.refl _))
  | succ c' r ih => exact .succ c' (ih c)
theorem Steps.good {k : Nat} {f g : W} (hf : f ≠ []) (r : Steps k f g) : g ≠ [] ∧ g.length + k ≤ f.length ∧ (∀ y ∈ g, y ∈ f) ∧ (lturn f = f → lturn g = g) := by
  induction r with
  | zero => exact ⟨hf, Nat.le_refl _, fun _ h => h, fun h => h⟩
  | succ r h ih =>
    obtain ⟨a, b, c, d⟩ := ih hf
    obtain ⟨a', b', c', d'⟩ := rn_good a h
    exact ⟨a', by omega, fun y hy => c y (d' y hy), fun _ => c'⟩
theorem Steps.cons {k : Nat} {f g h : W} (c : g ∈ rn f) (r : Steps k g h) : Steps (k + 1) f h := by
  induction r with
  | zero => exact .succ (.zero f) c
  | succ r x ih => exact .succ (ih c) x
theorem steps_of_rw {k : Nat} {f g : W} (hf : f ≠ []) (r : Rw k f g) : Steps k (lturn f) (lturn g) := by
  induction r with
  | zero a =>
    rw [lturn_of_sim hf a]
    exact .zero _
  | @succ k f h g c r ih =>
    have hh : h ≠ [] := by
      intro e
      have := c.len
      rw [e] at this
      simp at this
    have m : lturn h ∈ rn (lturn f) := (mem_rn (lturn_ne hf)).mpr ⟨h, c.left (lturn_sim hf).symm, rfl⟩
    exact Steps.cons m (ih hh)
theorem rw_of_steps {k : Nat} {f g : W} (hf : f ≠ []) (r : Steps k f g) : Rw k f g := by
  induction r with
  | zero => exact .zero (Sim.refl _)
  | succ r m ih =>
    obtain ⟨a, _⟩ := r.good hf
    obtain ⟨h, c, rfl⟩ := (mem_rn a).mp m
    have hh : h ≠ [] := by
      intro e
      have := c.len
      rw [e] at this
      simp at this
    exact (ih hf).snoc (c.right (lturn_sim hh))
theorem steps_iff {k : Nat} {f g : W} (hf : f ≠ []) (hg : g ≠ []) : Steps k (lturn f) (lturn g) ↔ Rw k f g := by
  constructor
  · intro r
    exact ((rw_of_steps (lturn_ne hf) r).left (lturn_sim hf)).right (lturn_sim hg).symm
  · exact steps_of_rw hf
/-! ### partings -/
def Blk (a : Nat) (u : W) : Prop := u.head? = some a ∧ u.getLast? = some a
def wt (u : W) : Nat := if 1 < u.length then 1 else 0
inductive Pc : W → W → Nat → Prop where
  | nil : Pc [] [] 0
  | cons {a : Nat} {u v g : W} {c : Nat} : Blk a u → Pc v g c → Pc (u ++ v) (a :: g) (wt u + c)
theorem Blk.one (a : Nat) : Blk a [a] := ⟨rfl, rfl⟩
theorem Blk.two (a : Nat) (u : W) : Blk a (a :: (u ++ [a])) := ⟨rfl, by rw [← List.cons_append, List.getLast?_append]; simp⟩
theorem Blk.cases {a : Nat} {u : W} (b : Blk a u) : u = [a] ∨ ∃ m, u = a :: (m ++ [a]) := by
  obtain ⟨h1, h2⟩ := b
  cases u with
  | nil => simp at h1
  | cons x r =>
    have e : x = a := by simpa using h1
    subst e
    rcases List.eq_nil_or_concat r with e | ⟨m, y, e⟩
    · subst e; exact .inl rfl
    · subst e
      refine .inr ⟨m, ?_⟩
      have h3 : (x :: m.concat y).getLast? = some y := by
        rw [List.concat_eq_append, ← List.cons_append, List.getLast?_append]
        simp
      have : y = x := Option.some.inj (h3.symm.trans h2)
      rw [this]; simp
theorem Blk.ne {a : Nat} {u : W} (b : Blk a u) : u ≠ [] := by
  intro e
  rw [e] at b
  exact absurd b.1 (by simp)
theorem pc_self : ∀ g : W, Pc g g 0
  | [] => .nil
  | a :: g => by
    have := Pc.cons (Blk.one a) (pc_self g)
    simpa [wt] using this
theorem Pc.goal_ne {f g : W} {c : Nat} (p : Pc f g c) (hf : f ≠ []) : g ≠ [] := by
  cases p with
  | nil => exact absurd rfl hf
  | cons => simp
theorem Pc.film_ne {f g : W} {c : Nat} (p : Pc f g c) (hg : g ≠ []) : f ≠ [] := by
  cases p with
  | nil => exact absurd rfl hg
  | cons b _ =>
    have := b.ne
    simp [this]
/-- a parting is played: as many cuts as it has long blocks -/
theorem rw_of_pc {f g : W} {c : Nat} (p : Pc f g c) : ∀ w : W, Rw c (w ++ f) (w ++ g) := by
  induction p with
  | nil => exact fun w => .zero (Sim.refl _)
  | @cons a u v g c b p ih =>
    intro w
    have z := ih (w ++ [a])
    rcases b.cases with e | ⟨m, e⟩
    · subst e
      have : wt [a] + c = c := by simp [wt]
      rw [this]
      simpa using z
    · have e1 : wt u + c = c + 1 := by
        rw [e]; simp [wt]; omega
      rw [e1]
      have z' : Rw c (w ++ [a] ++ v) (w ++ a :: g) := by simpa using z
      refine Rw.succ ⟨a, m, v ++ w, ?_, ?_⟩ z'
      · refine ⟨w, u ++ v, rfl, ?_⟩
        rw [e]; simp
      · refine ⟨a :: v, w, by simp, by simp⟩
theorem rw_of_part {f g : W} {c : Nat} (p : Pc f g c) : Rw c f g := by simpa using rw_of_pc p []
/-- a piece is put in between like letters -/
theorem pc_grow (x : Nat) (u : W) {F g : W} {c : Nat} (p : Pc F g c) : ∀ (l r : W), F = l ++ x :: r → ∃ c', c' ≤ c + 1 ∧ Pc (l ++ x :: (u ++ x :: r)) g c' := by
  induction p with
  | nil =>
    intro l r e
    exact absurd e (by simp)
  | @cons a k v g c b p ih =>
    intro l r e
    rcases List.append_eq_append_iff.mp e with ⟨t, e1, e2⟩ | ⟨t, e1, e2⟩
    · -- l = k ++ t
      obtain ⟨c', h1, h2⟩ := ih t r e2
      refine ⟨wt k + c', by omega, ?_⟩
      have := Pc.cons b h2
      rw [e1]
      simpa using this
    · -- k = l ++ t, x :: r = t ++ v
      cases t with
      | nil =>
        have e3 : v = [] ++ x :: r := by simpa using e2.symm
        obtain ⟨c', h1, h2⟩ := ih [] r e3
        refine ⟨wt k + c', by omega, ?_⟩
        have := Pc.cons b h2
        have ek : k = l := by simpa using e1
        rw [← ek]
        simpa using this
      | cons y t =>
        have ey : x = y ∧ r = t ++ v := by simpa using e2
        obtain ⟨rfl, er⟩ := ey
        have bl : Blk a (l ++ x :: (u ++ x :: t)) := by
          obtain ⟨h1, h2⟩ := b
          rw [e1] at h1 h2
          refine ⟨?_, ?_⟩
          · cases l with
            | nil => simpa using h1
            | cons z l => simpa using h1
          · have q : (l ++ x :: (u ++ x :: t)).getLast? = (x :: t).getLast? := by
              rw [show l ++ x :: (u ++ x :: t) = (l ++ x :: u) ++ (x :: t) by simp, List.getLast?_append]
              cases hq : (x :: t).getLast? with
              | none => simp at hq
              | some _ => rfl
            have q2 : (l ++ x :: t).getLast? = (x :: t).getLast? := by
              rw [List.getLast?_append]
              cases hq : (x :: t).getLast? with
              | none => simp at hq
              | some _ => rfl
            rw [q, ← q2]; exact h2
        refine ⟨wt (l ++ x :: (u ++ x :: t)) + c, ?_, ?_⟩
        · unfold wt
          split <;> split <;> omega
        · have := Pc.cons bl p
          rw [er]
          simpa using this
/-- a row of cuts leaves a parting of some turn -/
theorem part_of_rw {k : Nat} {f g : W} (r : Rw k f g) : ∃ f' c, Sim f f' ∧ c ≤ k ∧ Pc f' g c := by
  induction r with
  | @zero f g a => exact ⟨g, 0, a, Nat.le_refl _, pc_self g⟩
  | @succ k f h g c r ih =>
    obtain ⟨h', c', s, hc, p⟩ := ih
    obtain ⟨x, u, v, a, b⟩ := c
    obtain ⟨p1, p2, e1, e2⟩ := b.trans s
    -- x :: v = p1 ++ p2, h' = p2 ++ p1
    cases p1 with
    | nil =>
      have e3 : h' = [] ++ x :: v := by rw [e2, e1]; simp
      obtain ⟨c2, h1, h2⟩ := pc_grow x u p [] v e3
      exact ⟨x :: (u ++ x :: v), c2, a, by omega, by simpa using h2⟩
    | cons y q =>
      have ey : x = y ∧ v = q ++ p2 := by simpa using e1
      obtain ⟨rfl, ev⟩ := ey
      obtain ⟨c2, h1, h2⟩ := pc_grow x u p p2 q e2
      refine ⟨p2 ++ x :: (u ++ x :: q), c2, a.trans ⟨x :: (u ++ x :: q), p2, by rw [ev]; simp, rfl⟩, by omega, h2⟩
/-- the law of rings: names at k steps, and partings of turns -/
theorem steps_part {f g : W} (hf : f ≠ []) (hg : g ≠ []) {k : Nat} (s : Steps k (lturn f) (lturn g)) : ∃ i c, i < f.length ∧ c ≤ k ∧ Pc (rot f i) g c := by
  obtain ⟨f', c, sm, hc, p⟩ := part_of_rw ((steps_iff hf hg).mp s)
  obtain ⟨i, hi, e⟩ := sm.at hf
  exact ⟨i, c, hi, hc, e ▸ p⟩
theorem part_steps {f g : W} (hf : f ≠ []) (hg : g ≠ []) {i c : Nat} (p : Pc (rot f i) g c) : Steps c (lturn f) (lturn g) :=
  (steps_iff hf hg).mpr ((rw_of_part p).left (Sim.rot f i))
end Rg
set_option Elab.async false
set_option linter.all false
set_option maxRecDepth 100000
set_option maxHeartbeats 4000000
/-! Films as texts; the defs by name; what a comprehension makes. -/
namespace G
open PySem PySem.Spec PyProof.Rows L2
open Rg (W)
/-! ### texts -/
def tx (f : W) : Str := ⟨f.toArray⟩
abbrev txV (f : W) : V := .str (tx f)
theorem tx_list (f : W) : (tx f).cps.toList = f := rfl
theorem tx_size (f : W) : (tx f).cps.size = f.length := by simp [tx]
theorem tx_len (f : W) : (tx f).length = f.length := by simp [tx, Str.length]
theorem tx_inj {f g : W} (h : tx f = tx g) : f = g := by
  have e := congrArg (fun s : Str => s.cps.toList) h
  exact e
theorem tx_of (z : Str) : tx z.cps.toList = z := by
  obtain ⟨a⟩ := z
  simp [tx]
theorem tx_app (f g : W) : tx f ++ tx g = tx (f ++ g) := by
  show (⟨f.toArray ++ g.toArray⟩ : Str) = _
  simp [tx]
theorem tx_one (c : Nat) : (⟨#[c]⟩ : Str) = tx [c] := rfl
theorem tx_at {f : W} {i : Nat} : (tx f).cps[i]? = f[i]? := by simp [tx]
theorem cut_from (f : W) (k : Nat) : cutS (tx f) (some (k : Int)) none = tx (f.drop k) := by
  unfold cutS
  rw [HT.sIx_nat, HT.sIx_none, tx_len, tx_list]
  show (⟨_⟩ : Str) = ⟨_⟩
  congr 2
  rcases Nat.le_total k f.length with h | h
  · rw [Nat.min_eq_left h, List.take_of_length_le (by rw [List.length_drop]; exact Nat.le_refl _)]
  · rw [Nat.min_eq_right h, List.drop_of_length_le (Nat.le_refl _), List.drop_of_length_le h]
    simp
theorem cut_to (f : W) (k : Nat) : cutS (tx f) none (some (k : Int)) = tx (f.take k) := by
  unfold cutS
  rw [HT.sIx_nat, HT.sIx_none, tx_len, tx_list]
  show (⟨_⟩ : Str) = ⟨_⟩
  congr 1
  rw [List.drop_zero, Nat.sub_zero]
  rcases Nat.le_total k f.length with h | h
  · rw [Nat.min_eq_left h]
  · rw [Nat.min_eq_right h, List.take_of_length_le (Nat.le_refl _), List.take_of_length_le h]
theorem small_line {n : Nat} (h : n ≤ 1000) : n ≤ sizeLine := Nat.le_trans h (by decide)
/-- equality of texts -/
theorem tx_eqV (f g : W) : decide (txV f = txV g) = decide (f = g) := by
  by_cases h : f = g
  · subst h; simp
  · rw [decide_eq_false h, decide_eq_false]
    intro e
    exact h (tx_inj (V.str.inj e))
theorem sign_eqV (a b : Nat) : decide (V.str ⟨#[a]⟩ = V.str ⟨#[b]⟩) = decide (a = b) := by
  by_cases h : a = b
  · subst h; simp
  · rw [decide_eq_false h, decide_eq_false]
    intro e
    injection e with e
    injection e with e
    have : [a] = [b] := by simpa using congrArg Array.toList e
    exact h (by simpa using this)
/-! ### built-ins' names -/
theorem bt_len : bootBuiltins "len" = some (.builtin "len") := PySem.boot_len
theorem bt_isinstance : bootBuiltins "isinstance" = some (.builtin "isinstance") := PyProof.Rows.boot_isinstance
theorem bt_min : bootBuiltins "min" = some (.builtin "min") := by decide +kernel
theorem bt_sorted : bootBuiltins "sorted" = some (.builtin "sorted") := by decide +kernel
theorem bt_any : bootBuiltins "any" = some (.builtin "any") := by decide +kernel
theorem bt_sum : bootBuiltins "sum" = some (.builtin "sum") := by decide +kernel
theorem bt_str : bootBuiltins "str" = some (.type "str") := by decide +kernel
theorem bt_tuple : bootBuiltins "tuple" = some (.type "tuple") := by decide +kernel
theorem bt_int : bootBuiltins "int" = some (.type "int") := by decide +kernel
theorem bt_list : bootBuiltins "list" = some (.type "list") := by decide +kernel
theorem bt_bool : bootBuiltins "bool" = some (.type "bool") := by decide +kernel
/-- what the module's names stand for -/
structure Fr (mg : Str → Option Value) : Prop where
  len : mg "len" = none
  isinstance : mg "isinstance" = none
  str : mg "str" = none
  enumerate : mg "enumerate" = none
  tuple : mg "tuple" = none
  range : mg "range" = none
  min : mg "min" = none
  sorted : mg "sorted" = none
  any : mg "any" = none
  sum : mg "sum" = none
  set : mg "set" = none
  int : mg "int" = none
  list : mg "list" = none
  bool : mg "bool" = none
  cLETTERS : ∃ u, mg "LETTERS" = some u ∧ RelV (.str "abcdefgh") u
  cMOST_FILM : ∃ u, mg "MOST_FILM" = some u ∧ RelV (.int 200) u
  cMOST_RING : ∃ u, mg "MOST_RING" = some u ∧ RelV (.int 60) u
  cMOST_LISTED : ∃ u, mg "MOST_LISTED" = some u ∧ RelV (.int 12) u
theorem pe_globE {X : Cx} {x : Str} {v : V} {pos : Pos} (hg : Gl X x) (h : ∃ u, X.mg x = some u ∧ RelV v u) (hd : (x == ("__debug__" : Str)) = false := by decide) : PE X (.Name x pos) (tC v) := by
  obtain ⟨u, hm, r⟩ := h
  exact pe_glob hg hm r hd
/-! ### a def, by its name -/
structure Df (P : Program) (w : World) (K : PySem.W.Frag) (mg : Str → Option Value) (base : Heap) (x : Str) (ps : List Str) (k : Nat) (sp : Sp) : Prop where
  ex : ∃ f fd, mg x = some (.ref f) ∧ PySem.W.keepIn K (.ref f) = true ∧ Binds K fd ps [] ∧ FnOk P w K mg base CX0 k f fd ps sp
theorem Df.call {X : Cx} {x : Str} {ps : List Str} {k : Nat} {sp : Sp} {e : Expr} {es : List Expr} {t : TA} {p pos : Pos} (D : Df X.prog X.w X.K X.mg X.base x ps k sp) (hr : Room k X.A) (hg : Gl X x) (ha : PA X (e :: es) t)
    (hdb : (x == ("__debug__" : Str)) = false := by decide) (he : starEach (e :: es) X.env = (false, eval e X.env) :: starEach es X.env := by rfl) (hpl : (backTo pos (starEach es X.env)).any (·.1) = false := by rfl) :
    PE X (.Call (.Name x p) (e :: es) [] pos) (tCall sp [] E0 t) := by
  obtain ⟨f, fd, hm, hk, hb, F⟩ := D.ex
  exact pe_call F hr hg hm hk hb .nil pass0 ha hdb he hpl
theorem Df.imp {P : Program} {w : World} {K : PySem.W.Frag} {mg : Str → Option Value} {base : Heap} {x : Str} {ps : List Str} {k : Nat} {sp sp' : Sp} (D : Df P w K mg base x ps k sp) (h : ∀ vs H Q E, sp' vs H Q E → sp vs H Q E) : Df P w K mg base x ps k sp' := by
  obtain ⟨f, fd, hm, hk, hb, F⟩ := D.ex
  exact ⟨f, fd, hm, hk, hb, F.imp h⟩
/-! ### what a loop or a comprehension makes at D -/
structure PvL (D : Addr) (H1 : Hp) (L : Nat → List V) (i : Nat) (H : Hp) : Prop where
  at_ : H D = some (.lst (L i))
  same : Same H1 H
theorem same_new {H H' : Hp} {D : Addr} {o : HO} (s : Same H H') (n : H D = none) : Same H (upd H' D o) := fun b u e => by
  rw [upd_ne (ne_of_none e n)]
  exact s b u e
theorem PvL.start {D : Addr} {H1 : Hp} {L : Nat → List V} (n : H1 D = none) (h : L 0 = []) : PvL D H1 L 0 (upd H1 D (.lst [])) := ⟨by rw [upd_same, h], same_new (Same.refl H1) n⟩
theorem PvL.push {D : Addr} {H1 H : Hp} {L : Nat → List V} {i : Nat} {y : V} (n : H1 D = none) (s : Same H1 H) (h : L (i + 1) = L i ++ [y]) : PvL D H1 L (i + 1) (upd H D (.lst (L i ++ [y]))) := ⟨by rw [upd_same, h], same_new s n⟩
theorem PvL.skip {D : Addr} {H1 H : Hp} {L : Nat → List V} {i : Nat} (p : PvL D H1 L i H) (h : L (i + 1) = L i) : PvL D H1 L (i + 1) H := ⟨by rw [h]; exact p.at_, p.same⟩
theorem PvL.later {D : Addr} {H1 H H' : Hp} {L : Nat → List V} {i : Nat} (p : PvL D H1 L i H) (s : Same H H') : PvL D H1 L i H' := ⟨s _ _ p.at_, p.same.trans s⟩
/-- all items -/
def mapL (F : Nat → V) (i : Nat) : List V := (List.range i).map F
theorem mapL_succ (F : Nat → V) (i : Nat) : mapL F (i + 1) = mapL F i ++ [F i] := by simp [mapL, List.range_succ]
/-- those that a test takes -/
def filL (p : Nat → Bool) (F : Nat → V) (i : Nat) : List V := ((List.range i).filter p).map F
theorem filL_yes {p : Nat → Bool} {F : Nat → V} {i : Nat} (h : p i = true) : filL p F (i + 1) = filL p F i ++ [F i] := by simp [filL, List.range_succ, List.filter_append, h]
theorem filL_no {p : Nat → Bool} {F : Nat → V} {i : Nat} (h : p i = false) : filL p F (i + 1) = filL p F i := by simp [filL, List.range_succ, List.filter_append, h]
theorem mapL_len (F : Nat → V) (i : Nat) : (mapL F i).length = i := by simp [mapL]
theorem filL_len (p : Nat → Bool) (F : Nat → V) (i : Nat) : (filL p F i).length ≤ i := by
  unfold filL
  rw [List.length_map]
  exact Nat.le_trans (List.length_filter_le _ _) (by simp)
theorem lt_line {n : Nat} (h : n ≤ 1000) : n < sizeLine := Nat.lt_of_le_of_lt h (by decide)
theorem upd_new {H : Hp} {D p : Addr} {o u : HO} (h : H D = some u) (n : H p = none) : (upd H p o) D = some u := by
  rw [upd_ne (ne_of_none h n)]
  exact h
theorem same_upd {H : Hp} {p : Addr} {o : HO} (n : H p = none) : Same H (L2.upd H p o) := same_new (Same.refl H) n
theorem iteY {b : Bool} {A B : Prop} (h : b = true) (a : A) : if b = true then A else B := by
  rw [if_pos h]
  exact a
theorem iteN {b : Bool} {A B : Prop} (h : b = false) (a : B) : if b = true then A else B := by
  rw [if_neg (by rw [h]; exact Bool.false_ne_true)]
  exact a
theorem iteB {b : Bool} {A B : Prop} (h1 : b = true → A) (h2 : b = false → B) : if b = true then A else B := by
  cases b with
  | true => exact iteT (h1 rfl)
  | false => exact iteF (h2 rfl)
theorem tyes {σ : L2.St} {H : Hp} {A B : Hp → Prop} (h : A H) : tYes σ H fun b H3 => if b = true then A H3 else B H3 := by
  show if true = true then A H else B H
  rw [if_pos rfl]
  exact h
theorem atN {f : W} {i : Int} {j : Nat} {c : Nat} (e : i = (j : Int)) (h : f[j]? = some c) : atI (tx f).cps.toList i = some c := by
  subst e
  exact atI_nat h
theorem cut_n (f : W) {i : Int} {k : Nat} (e : i = (k : Int)) : cutS (tx f) (some i) none = tx (f.drop k) := by
  subst e
  exact cut_from f k
theorem cut_m (f : W) {i : Int} {k : Nat} (e : i = (k : Int)) : cutS (tx f) none (some i) = tx (f.take k) := by
  subst e
  exact cut_to f k
theorem int_eq {x : V} {i : Int} {k : Int} (h : x = .int i) (e : i = k) : x = .int k := by rw [h, e]
theorem txl {f : W} (h : f.length ≤ 1000) : (tx f).length ≤ sizeLine := by
  rw [tx_len]
  exact small_line h
theorem walk_tx {f : W} : Walk (Its (tx f)) f.length (fun _ => True) (fun i H v H' => H' = H ∧ ∃ c, f[i]? = some c ∧ v = txV [c]) :=
  ⟨fun i H hi _ => by show i < (tx f).cps.size; rw [tx_size]; exact hi, fun H _ => by show (tx f).cps.size ≤ f.length; rw [tx_size]; exact Nat.le_refl _, fun i H v H' hi _ y => by
    obtain ⟨e, c, hc, ev⟩ := y
    exact ⟨e, c, by rw [← tx_at]; exact hc, ev⟩⟩
theorem walk_en {f : W} : Walk (Iten (tx f)) f.length (fun _ => True) (fun i H v H' => ∃ T c, v = .ref T ∧ H T = none ∧ H' = upd H T (.tup [.int (i : Nat), txV [c]]) ∧ f[i]? = some c) :=
  ⟨fun i H hi _ => by show i < (tx f).cps.size; rw [tx_size]; exact hi, fun H _ => by show (tx f).cps.size ≤ f.length; rw [tx_size]; exact Nat.le_refl _, fun i H v H' hi _ y => by
    obtain ⟨T, c, e1, e2, e3, hc⟩ := y
    exact ⟨T, c, e1, e2, e3, by rw [← tx_at]; exact hc⟩⟩
/-! ### films -/
structure Film (f : W) : Prop where
  ne : f ≠ []
  len : f.length ≤ 8
  ok : ∀ c ∈ f, 97 ≤ c ∧ c ≤ 104
theorem Film.pos {f : W} (h : Film f) : 1 ≤ f.length := List.length_pos_iff.mpr h.ne
theorem letters_list : ("abcdefgh" : Str).cps.toList = [97, 98, 99, 100, 101, 102, 103, 104] := by decide +kernel
end G
set_option Elab.async false
set_option linter.all false
set_option maxRecDepth 100000
set_option maxHeartbeats 4000000
namespace G
open PySem PySem.Spec PyProof.Rows L2
open Rg (W)
abbrev nNeedFilm : List Str := ["value", "place", "letter"]
theorem scNeedFilm : FnScope nNeedFilm ["value"] (defScope sNeedFilm) := ⟨rfl, rfl, rfl, by decide +kernel, rfl, by decide +kernel, by decide +kernel⟩
abbrev nNeedShort : List Str := ["film", "most"]
theorem scNeedShort : FnScope nNeedShort ["film", "most"] (defScope sNeedShort) := ⟨rfl, rfl, rfl, by decide +kernel, rfl, by decide +kernel, by decide +kernel⟩
abbrev nTurned : List Str := ["film", "place"]
theorem scTurned : FnScope nTurned ["film", "place"] (defScope sTurned) := ⟨rfl, rfl, rfl, by decide +kernel, rfl, by decide +kernel, by decide +kernel⟩
abbrev nLeastTurn : List Str := ["film", "place"]
theorem scLeastTurn : FnScope nLeastTurn ["film"] (defScope sLeastTurn) := ⟨rfl, rfl, rfl, by decide +kernel, rfl, by decide +kernel, by decide +kernel⟩
def spNeedFilm : Sp := fun vs H Q _ => ∃ f : W, vs = [txV f] ∧ Film f ∧ ∀ H', Same H H' → Q .non H'
def spNeedShort : Sp := fun vs H Q _ => ∃ (f : W) (n : Int), vs = [txV f, .int n] ∧ (f.length : Int) ≤ n ∧ f.length ≤ 8 ∧ Q .non H
def spTurned : Sp := fun vs H Q _ => ∃ (f : W) (i : Nat), vs = [txV f, .int (i : Int)] ∧ f.length ≤ 100 ∧ Q (txV (Rg.rot f i)) H
/-- any def that hands back the least turn -/
def spTurn : Sp := fun vs H Q _ => ∃ f : W, vs = [txV f] ∧ f ≠ [] ∧ f.length ≤ 100 ∧ ∀ H', Same H H' → Q (txV (Rg.lturn f)) H'
section
variable {P : Program} {w : World} {K : PySem.W.Frag} {mg : Str → Option Value} {base : Heap} {f : Addr} {fd : FuncData}
theorem ok_need_film (F : FnP K "need_film" sNeedFilm f fd) (T : Fr mg) : FnOk P w K mg base CX0 1 f fd ["value"] spNeedFilm := by
  refine F.ok scNeedFilm (fun vs H Q E h => ?_) (fun cdv A outer s H vs Q E hr h => ?_)
  · obtain ⟨f, rfl, _⟩ := h
    rfl
  · obtain ⟨f, rfl, hf, k⟩ := h
    have hu := hu_of hr
    have nd := scNeedFilm.nd
    refine ⟨_, PSs.nox (pss_cons (ps_if (PW.pt (pw_or (pt_not (pt_val (pe_callB call_isi (by rfl) T.isinstance bt_isinstance (pa_cons (pv 0) (pa_cons (pe_bltn (v := .ty "str") (by rfl) T.str bt_str rfl) pa_nil))))) (pw_or1 (pt_not (pt_chain op_le op_le pe_int (pe_callB call_len_str (by rfl) T.len bt_len (pa_cons (pv 0) pa_nil)) (pe_globE rfl T.cMOST_FILM)))))) (pss_one ps_never) pss_nil)
      (pss_one (ps_for PassesOwn.never rfl (pi_enumS (by rfl) T.enumerate (pa_cons (pv 0) pa_nil)) (pg_tup (by rfl) (pgs_cons (pg_name (i := 1) nd rfl (Or.inl rfl)) (pgs_cons (pg_name (i := 2) nd rfl (Or.inl rfl)) pgs_nil))) (pss_one (ps_if (pt_cmpR op_notIn_sign (pv 2) (pe_globE rfl T.cLETTERS) rfl) (pss_one ps_never) pss_nil))))), ?_⟩
    have hl : (tx f).length ≤ sizeLine := txl (by have := hf.len; omega)
    refine ⟨_, rfl, _, _, .type "str", .type "str", true, rfl, .ty "str", .base (.str _), kit_ty (by decide +kernel), true, rfl, iteF ?_⟩
    refine ⟨_, rfl, _, rfl, hl, _, _, rfl, rfl, _, rfl, iteY (decide_eq_true ?_) ⟨_, _, rfl, rfl, _, rfl, ?_⟩⟩
    · rw [tx_len]; have := hf.pos; omega
    refine iteN (by rw [decide_eq_true]; rfl; rw [tx_len]; have := hf.len; omega) ?_
    refine ⟨_, rfl, _, rfl, for_it walk_en (fun i σ H1 => (∃ a b, σ = [some (txV f), a, b]) ∧ Same H H1) ⟨⟨_, _, rfl⟩, Same.refl _⟩ (fun _ _ _ _ _ => trivial) ?_ ?_⟩
    · rintro i x σ H1 H2 hi ⟨⟨a, b, rfl⟩, s⟩ ⟨T, c, rfl, hT, rfl, hc⟩
      refine ⟨T, _, rfl, .of upd_same, rfl, _, _, rfl, _, _, rfl, rfl, ?_⟩
      refine ⟨_, rfl, _, _, rfl, rfl, _, rfl, iteN ?_ ⟨⟨_, _, rfl⟩, same_new s (s.free hT)⟩⟩
      rw [letters_list]
      have hm := hf.ok c (List.mem_of_getElem? hc)
      have : c ∈ [97, 98, 99, 100, 101, 102, 103, 104] := by simp; omega
      simp [this]
    · rintro σ H1 ⟨_, s⟩
      exact k H1 s
theorem ok_need_short (F : FnP K "need_short" sNeedShort f fd) (T : Fr mg) : FnOk P w K mg base CX0 1 f fd ["film", "most"] spNeedShort := by
  refine F.ok scNeedShort (fun vs H Q E h => ?_) (fun cdv A outer s H vs Q E hr h => ?_)
  · obtain ⟨f, n, rfl, _⟩ := h
    rfl
  · obtain ⟨f, n, rfl, h1, h2, k⟩ := h
    have hu := hu_of hr
    have nd := scNeedShort.nd
    refine ⟨_, PSs.nox (pss_one (ps_if (pt_cmpR op_gt (pe_callB call_len_str (by rfl) T.len bt_len (pa_cons (pv 0) pa_nil)) (pv 1) (nomark _)) (pss_one ps_never) pss_nil)), ?_⟩
    have hl : (tx f).length ≤ sizeLine := txl (by omega)
    refine ⟨_, rfl, _, rfl, hl, _, rfl, _, _, rfl, rfl, _, rfl, iteN (decide_eq_false ?_) k⟩
    rw [tx_len]; omega
theorem rot_tx (f : W) (i : Nat) : cutS (tx f) (some (i : Int)) none ++ cutS (tx f) none (some (i : Int)) = tx (Rg.rot f i) := by
  rw [cut_from, cut_to, tx_app]
  rfl
theorem ok_turned (F : FnP K "turned" sTurned f fd) (T : Fr mg) : FnOk P w K mg base CX0 1 f fd ["film", "place"] spTurned := by
  refine F.ok scTurned (fun vs H Q E h => ?_) (fun cdv A outer s H vs Q E hr h => ?_)
  · obtain ⟨f, n, rfl, _⟩ := h
    rfl
  · obtain ⟨f, i, rfl, h1, k⟩ := h
    have hu := hu_of hr
    have nd := scTurned.nd
    refine ⟨_, PSs.nox (pss_one (ps_ret (pe_op op_add_str (pe_slice sl_str (pv 0) (po_some (pv 1)) po_none) (pe_slice sl_str (pv 0) po_none (po_some (pv 1)))))), ?_⟩
    have hl : (tx f).length ≤ sizeLine := txl (by omega)
    refine ⟨_, rfl, _, rfl, _, rfl, _, rfl, hl, _, rfl, _, rfl, _, rfl, _, rfl, hl, _, _, rfl, rfl, ?_, ?_⟩
    · rw [cut_from, cut_to, tx_len, tx_len, List.length_drop, List.length_take]
      exact small_line (by omega)
    · rw [rot_tx]
      exact k
theorem mapL_rots (f : W) : mapL (fun i => txV (Rg.rot f i)) f.length = ((Rg.rots f).map tx).map V.str := by
  unfold mapL Rg.rots
  rw [List.map_map, List.map_map]
  rfl
/-- the least of the turns, as min finds it -/
theorem min_rots {f : W} (hf : f ≠ []) {m : Str} (hm : m ∈ (Rg.rots f).map tx) (hl : ∀ y, y ∈ (Rg.rots f).map tx → ¬ y.cps.toList < m.cps.toList) : m = tx (Rg.lturn f) := by
  obtain ⟨g, hg, rfl⟩ := List.mem_map.mp hm
  rw [Rg.lturn_uniq hf ⟨hg, fun y hy => hl (tx y) (List.mem_map_of_mem hy)⟩]
theorem ok_least_turn (F : FnP K "least_turn" sLeastTurn f fd) (T : Fr mg) (Dturned : Df P w K mg base "turned" ["film", "place"] 1 spTurned) : FnOk P w K mg base CX0 2 f fd ["film"] spTurn := by
  refine F.ok scLeastTurn (fun vs H Q E h => ?_) (fun cdv A outer s H vs Q E hr h => ?_)
  · obtain ⟨f, rfl, _⟩ := h
    rfl
  · obtain ⟨f, rfl, hf, h1, k⟩ := h
    have hu := hu_of hr
    have nd := scLeastTurn.nd
    refine ⟨_, PSs.nox (pss_one (ps_ret (pe_callB (cr_minS rfl) (by rfl) T.min bt_min (pa_cons (pe_lc (own := [("place", 1)]) (g := (gName 1)) (tt := tYes) rfl nd (pi_range1 (by rfl) T.range (pa_cons (pe_callB call_len_str (by rfl) T.len bt_len (pa_cons (pv 0) pa_nil)) pa_nil)) (blkOk_by (N := nLeastTurn) (sc := defScope sLeastTurn) (by decide +kernel)) (fun _ _ _ _ _ => pg_name (i := 1) nd rfl (Or.inl rfl)) (fun _ _ _ _ _ => pts_nil) (fun _ _ _ _ _ => (Dturned.call (hr.mono (by decide)) (by rfl) (pa_cons (pv 0) (pa_cons (pv 1) pa_nil))))) pa_nil)))), ?_⟩
    have hl : (tx f).length ≤ sizeLine := txl (by omega)
    refine ⟨_, rfl, _, rfl, hl, _, rfl, ?_, ?_, fun D hD => ?_⟩
    · rw [tx_len]; omega
    · rw [tx_len]; omega
    rw [tx_len, Int.toNat_natCast]
    refine lc_it walk_range (PvL D H (mapL fun i => txV (Rg.rot f i))) (PvL.start hD rfl) (fun _ _ _ _ => trivial) ?_ ?_
    · rintro i x H1 H2 hi p ⟨rfl, rfl⟩
      refine ⟨rfl, tyes ?_⟩
      refine ⟨_, rfl, _, rfl, f, i, ?_, by omega, _, p.at_, lt_line (by rw [mapL_len]; omega), PvL.push hD p.same (mapL_succ _ _)⟩
      simp
    · intro H1 p
      refine ⟨D, (Rg.rots f).map tx, rfl, .of ?_, ?_, fun m hm hle => ?_⟩
      · rw [p.at_, mapL_rots]
      · simp [Rg.rots]
        exact List.length_pos_iff.mpr hf
      · rw [min_rots hf hm hle]
        exact k H1 p.same
end
end G
set_option linter.all false
/-! The plain law, part 2: lists without repetition, sorted ones, what a dict's keys are. -/
namespace Rg
theorem pigeon {α : Type} [DecidableEq α] : ∀ (l D : List α), l.Nodup → (∀ x ∈ l, x ∈ D) → l.length ≤ D.length
  | [], _, _, _ => Nat.zero_le _
  | x :: l, D, hn, hs => by
    obtain ⟨h1, h2⟩ := List.nodup_cons.mp hn
    have hx : x ∈ D := hs x List.mem_cons_self
    have ih := pigeon l (D.erase x) h2 fun y hy => by
      have hne : y ≠ x := fun e => h1 (e ▸ hy)
      exact (List.mem_erase_of_ne hne).2 (hs y (List.mem_cons_of_mem _ hy))
    have e := List.length_erase_of_mem hx
    have p : 0 < D.length := List.length_pos_of_mem hx
    simp only [List.length_cons]
    omega
/-- put in once -/
def ins (l : List W) (x : W) : List W := if x ∈ l then l else l ++ [x]
theorem mem_ins {l : List W} {x y : W} : y ∈ ins l x ↔ y ∈ l ∨ y = x := by
  unfold ins
  split
  · constructor
    · exact .inl
    · rintro (h | rfl)
      · exact h
      · assumption
  · simp
theorem nodup_ins {l : List W} (h : l.Nodup) (x : W) : (ins l x).Nodup := by
  unfold ins
  split
  · exact h
  · rename_i q
    rw [List.nodup_append]
    refine ⟨h, by simp, fun a ha b hb e => ?_⟩
    rw [List.mem_singleton] at hb
    rw [e, hb] at ha
    exact q ha
theorem len_ins (l : List W) (x : W) : (ins l x).length ≤ l.length + 1 := by
  unfold ins
  split
  · omega
  · simp
def ded (P : List W) : List W := P.foldl ins []
theorem ded_snoc (P : List W) (x : W) : ded (P ++ [x]) = ins (ded P) x := by simp [ded, List.foldl_append]
theorem foldl_ins : ∀ (P l : List W), (∀ y, y ∈ P.foldl ins l ↔ y ∈ l ∨ y ∈ P) ∧ (l.Nodup → (P.foldl ins l).Nodup) ∧ (P.foldl ins l).length ≤ l.length + P.length
  | [], l => ⟨fun y => by simp, fun h => h, by simp⟩
  | x :: P, l => by
    obtain ⟨a, b, c⟩ := foldl_ins P (ins l x)
    refine ⟨fun y => ?_, fun h => b (nodup_ins h x), ?_⟩
    · rw [List.foldl_cons, a y, mem_ins, List.mem_cons]
      constructor
      · rintro ((h | h) | h)
        · exact .inl h
        · exact .inr (.inl h)
        · exact .inr (.inr h)
      · rintro (h | h | h)
        · exact .inl (.inl h)
        · exact .inl (.inr h)
        · exact .inr h
    · have := len_ins l x
      rw [List.foldl_cons, List.length_cons]
      omega
theorem mem_ded {P : List W} {y : W} : y ∈ ded P ↔ y ∈ P := by
  have := (foldl_ins P []).1 y
  simpa [ded] using this
theorem nodup_ded (P : List W) : (ded P).Nodup := (foldl_ins P []).2.1 List.nodup_nil
theorem len_ded (P : List W) : (ded P).length ≤ P.length := by
  have := (foldl_ins P []).2.2
  simpa [ded] using this
/-- the rising list of what is in L -/
def IsSrt (ys : List W) (L : W → Prop) : Prop := ys.Pairwise (· < ·) ∧ ∀ x, x ∈ ys ↔ L x
theorem IsSrt.nodup {ys : List W} {L : W → Prop} (h : IsSrt ys L) : ys.Nodup := h.1.imp fun {a b} q e => by
  rw [e] at q
  exact List.lt_irrefl _ q
theorem sorted_uniq : ∀ {a b : List W}, a.Pairwise (· < ·) → b.Pairwise (· < ·) → (∀ x, x ∈ a ↔ x ∈ b) → a = b
  | [], [], _, _, _ => rfl
  | [], y :: b, _, _, h => by
    have := (h y).mpr List.mem_cons_self
    simp at this
  | x :: a, [], _, _, h => by
    have := (h x).mp List.mem_cons_self
    simp at this
  | x :: a, y :: b, ha, hb, h => by
    obtain ⟨a1, a2⟩ := List.pairwise_cons.mp ha
    obtain ⟨b1, b2⟩ := List.pairwise_cons.mp hb
    have e : x = y := by
      rcases List.mem_cons.mp ((h x).mp List.mem_cons_self) with q | q
      · exact q
      · rcases List.mem_cons.mp ((h y).mpr List.mem_cons_self) with r | r
        · exact r.symm
        · exact absurd (List.lt_trans (a1 y r) (b1 x q)) (List.lt_irrefl _)
    subst e
    rw [sorted_uniq a2 b2 fun z => ?_]
    constructor
    · intro hz
      rcases List.mem_cons.mp ((h z).mp (List.mem_cons_of_mem _ hz)) with q | q
      · rw [q] at hz
        exact absurd (a1 x hz) (List.lt_irrefl _)
      · exact q
    · intro hz
      rcases List.mem_cons.mp ((h z).mpr (List.mem_cons_of_mem _ hz)) with q | q
      · rw [q] at hz
        exact absurd (b1 x hz) (List.lt_irrefl _)
      · exact q
theorem IsSrt.uniq {a b : List W} {L M : W → Prop} (x : IsSrt a L) (y : IsSrt b M) (h : ∀ z, L z ↔ M z) : a = b :=
  sorted_uniq x.1 y.1 fun z => (x.2 z).trans ((h z).trans (y.2 z).symm)
/-! ### the cuts, place by place -/
/-- by the second places below s -/
def cutsTo (now : W) (s : Nat) : List W := ((List.range s).filter fun s => decide (1 ≤ s) && (now[s]? == now[0]?)).map fun s => lturn (now.take 1 ++ now.drop (s + 1))
theorem cutsTo_one (now : W) : cutsTo now 1 = [] := by
  unfold cutsTo
  simp
theorem cutsTo_yes {now : W} {s : Nat} (h1 : 1 ≤ s) (h2 : now[s]? = now[0]?) : cutsTo now (s + 1) = cutsTo now s ++ [lturn (now.take 1 ++ now.drop (s + 1))] := by
  unfold cutsTo
  rw [List.range_succ, List.filter_append, List.map_append]
  simp [h1, h2]
theorem cutsTo_no {now : W} {s : Nat} (h2 : now[s]? ≠ now[0]?) : cutsTo now (s + 1) = cutsTo now s := by
  unfold cutsTo
  rw [List.range_succ, List.filter_append, List.map_append]
  simp [h2]
theorem cutsTo_len (now : W) (s : Nat) : (cutsTo now s).length ≤ s := by
  unfold cutsTo
  rw [List.length_map]
  exact Nat.le_trans (List.length_filter_le _ _) (by simp)
theorem cutsTo_all (now : W) : cutsTo now now.length = cutsAt now := rfl
/-- by the first places below i -/
def rnTo (f : W) (i : Nat) : List W := (List.range i).flatMap fun i => cutsAt (rot f i)
theorem rnTo_succ (f : W) (i : Nat) : rnTo f (i + 1) = rnTo f i ++ cutsAt (rot f i) := by simp [rnTo, List.range_succ, List.flatMap_append]
theorem rnTo_all (f : W) : rnTo f f.length = rn f := rfl
theorem rnTo_len (f : W) : ∀ i, (rnTo f i).length ≤ i * f.length
  | 0 => by simp [rnTo]
  | i + 1 => by
    have h1 := rnTo_len f i
    have h2 := cutsTo_len (rot f i) (rot f i).length
    rw [cutsTo_all, rot_len] at h2
    rw [rnTo_succ, List.length_append, Nat.succ_mul]
    omega
/-- a piece of a turn that is made of the film's letters -/
theorem cut_ne {now : W} (h : now ≠ []) (s : Nat) : now.take 1 ++ now.drop s ≠ [] := by
  cases now with
  | nil => exact absurd rfl h
  | cons x r => simp
end Rg
set_option Elab.async false
set_option linter.all false
set_option maxRecDepth 100000
set_option maxHeartbeats 4000000
/-! dicts whose keys are films; sorted of their keys. -/
namespace G
open PySem PySem.Spec PyProof.Rows L2
open Rg (W)
def kd (l : List W) (v : V) : List (Key × V) := l.map fun g => (Sum.inr (tx g), v)
theorem key_tx (f g : W) : ((Sum.inr (tx f) : Key) = Sum.inr (tx g)) ↔ f = g := ⟨fun e => tx_inj (Sum.inr.inj e), fun e => by rw [e]⟩
theorem valV_kd (v : V) (x : W) : ∀ l : List W, valV (kd l v) (Sum.inr (tx x) : Key) = if x ∈ l then some v else none
  | [] => rfl
  | y :: l => by
    show valV ((Sum.inr (tx y), v) :: kd l v) _ = _
    by_cases e : y = x
    · subst e
      rw [valV_pos rfl]
      simp
    · rw [valV_neg (fun q => e ((key_tx y x).mp q)), valV_kd v x l]
      simp [Ne.symm e]
theorem putK_kd (v : V) (l : List W) (x : W) : putK (kd l v) (Sum.inr (tx x) : Key) v = kd (Rg.ins l x) v := by
  unfold Rg.ins
  by_cases h : x ∈ l
  · rw [if_pos h]
    unfold putK
    rw [valV_any, valV_kd, if_pos h, if_pos (show (some v).isSome = true from rfl)]
    unfold kd
    rw [List.map_map]
    refine List.map_congr_left fun y hy => ?_
    show (if (Sum.inr (tx y) : Key) = Sum.inr (tx x) then _ else _) = _
    split <;> rfl
  · rw [if_neg h, putK_new _ (by rw [valV_kd, if_neg h])]
    simp [kd]
theorem kd_len (l : List W) (v : V) : (kd l v).length = l.length := by simp [kd]
theorem kd_keys (l : List W) (v : V) : (kd l v).map (·.1) = (l.map tx).map Sum.inr := by simp [kd, List.map_map, Function.comp_def]
/-- with values -/
def kl (l : List (W × V)) : List (Key × V) := l.map fun p => (Sum.inr (tx p.1), p.2)
theorem kl_len (l : List (W × V)) : (kl l).length = l.length := by simp [kl]
theorem kl_keys (l : List (W × V)) : (kl l).map (·.1) = ((l.map (·.1)).map tx).map Sum.inr := by simp [kl, List.map_map, Function.comp_def]
theorem valV_kl (x : W) : ∀ l : List (W × V), valV (kl l) (Sum.inr (tx x) : Key) = l.lookup x
  | [] => rfl
  | p :: l => by
    show valV ((Sum.inr (tx p.1), p.2) :: kl l) _ = _
    rw [List.lookup_cons]
    by_cases e : p.1 = x
    · rw [valV_pos ((key_tx _ _).mpr e)]
      simp [e]
    · rw [valV_neg (fun q => e ((key_tx _ _).mp q)), valV_kl x l]
      have : (x == p.1) = false := by simpa using Ne.symm e
      rw [this]
theorem putK_kl {l : List (W × V)} {x : W} (v : V) (h : l.lookup x = none) : putK (kl l) (Sum.inr (tx x) : Key) v = kl (l ++ [(x, v)]) := by
  rw [putK_new _ (by rw [valV_kl]; exact h)]
  simp [kl]
/-! ### sorted -/
theorem rising_pw : ∀ (p : Str) (l : List Str), risingS p l = true → (p :: l).Pairwise fun a b => ¬ b.cps.toList < a.cps.toList
  | p, [], _ => by simp
  | p, x :: l, h => by
    have h2 : (!ltCps x.cps.toList p.cps.toList && risingS x l) = true := h
    rw [Bool.and_eq_true] at h2
    have h3 : ¬ x.cps.toList < p.cps.toList := by
      have := h2.1
      rw [ltCps_eq] at this
      simpa using this
    have ih := rising_pw x l h2.2
    rw [List.pairwise_cons]
    refine ⟨fun y hy => ?_, ih⟩
    rcases List.mem_cons.mp hy with e | hy
    · rw [e]; exact h3
    · have h4 := (List.pairwise_cons.mp ih).1 y hy
      intro q
      rcases Rg.wlt_conn x.cps.toList y.cps.toList with z | z | z
      · exact h3 (List.lt_trans z q)
      · rw [← z] at q; exact h3 q
      · exact h4 z
theorem sorted_pw {l : List Str} (h : sortedS l = true) : l.Pairwise fun a b => ¬ b.cps.toList < a.cps.toList := by
  cases l with
  | nil => simp
  | cons x r => exact rising_pw x r h
theorem srt_of {l : List W} {ys : List Str} (hn : l.Nodup) (hp : ys.Perm (l.map tx)) (hs : sortedS ys = true) : ∃ zs, ys = zs.map tx ∧ Rg.IsSrt zs (· ∈ l) := by
  refine ⟨ys.map fun z => z.cps.toList, ?_, ?_, fun x => ?_⟩
  · rw [List.map_map]
    conv => lhs; rw [← List.map_id ys]
    exact List.map_congr_left fun z _ => (tx_of z).symm
  · rw [List.pairwise_map]
    have hn2 : ys.Nodup := hp.nodup_iff.mpr (List.pairwise_map.mpr (hn.imp fun {a b} h e => h (tx_inj e)))
    have := (sorted_pw hs).and hn2
    refine this.imp fun {a b} ⟨h1, h2⟩ => ?_
    rcases Rg.wlt_conn a.cps.toList b.cps.toList with z | z | z
    · exact z
    · refine absurd ?_ h2
      rw [← tx_of a, ← tx_of b, z]
    · exact absurd z h1
  · rw [List.mem_map]
    constructor
    · rintro ⟨z, hz, rfl⟩
      obtain ⟨y, hy, e⟩ := List.mem_map.mp (hp.mem_iff.mp hz)
      rw [← e]
      exact hy
    · intro hx
      exact ⟨tx x, hp.mem_iff.mpr (List.mem_map_of_mem hx), rfl⟩
theorem map_txV (l : List W) : (l.map tx).map V.str = l.map txV := by simp [List.map_map, Function.comp_def]
end G
set_option Elab.async false
set_option linter.all false
set_option maxRecDepth 100000
set_option maxHeartbeats 4000000
namespace G
open PySem PySem.Spec PyProof.Rows L2
open Rg (W)
abbrev nRingName : List Str := ["film"]
theorem scRingName : FnScope nRingName ["film"] (defScope sRingName) := ⟨rfl, rfl, rfl, by decide +kernel, rfl, by decide +kernel, by decide +kernel⟩
abbrev nSameRing : List Str := ["one", "other"]
theorem scSameRing : FnScope nSameRing ["one", "other"] (defScope sSameRing) := ⟨rfl, rfl, rfl, by decide +kernel, rfl, by decide +kernel, by decide +kernel⟩
abbrev nNeedRing : List Str := ["film"]
theorem scNeedRing : FnScope nNeedRing ["film"] (defScope sNeedRing) := ⟨rfl, rfl, rfl, by decide +kernel, rfl, by decide +kernel, by decide +kernel⟩
abbrev nRingNextOf : List Str := ["film", "found", "first", "now", "second"]
theorem scRingNextOf : FnScope nRingNextOf ["film"] (defScope sRingNextOf) := ⟨rfl, rfl, rfl, by decide +kernel, rfl, by decide +kernel, by decide +kernel⟩
abbrev nRingNext : List Str := ["film"]
theorem scRingNext : FnScope nRingNext ["film"] (defScope sRingNext) := ⟨rfl, rfl, rfl, by decide +kernel, rfl, by decide +kernel, by decide +kernel⟩
abbrev nLawTurn : List Str := ["_law_film_here", "_law_place"]
theorem scLawTurn : FnScope nLawTurn ["_law_film_here"] (defScope sLawTurn) := ⟨rfl, rfl, rfl, by decide +kernel, rfl, by decide +kernel, by decide +kernel⟩
abbrev nLawRingNext : List Str := ["_law_film_here", "_law_found", "_law_place", "_law_now", "_law_second"]
theorem scLawRingNext : FnScope nLawRingNext ["_law_film_here"] (defScope sLawRingNext) := ⟨rfl, rfl, rfl, by decide +kernel, rfl, by decide +kernel, by decide +kernel⟩
/-- a def of a film that hands back a film's turn -/
def spRingName : Sp := fun vs H Q _ => ∃ f : W, vs = [txV f] ∧ Film f ∧ ∀ H', Same H H' → Q (txV (Rg.lturn f)) H'
def spSameRing : Sp := fun vs H Q _ => ∃ f g : W, vs = [txV f, txV g] ∧ Film f ∧ Film g ∧ ∀ H', Same H H' → Q (.bl (decide (Rg.lturn f = Rg.lturn g))) H'
/-- the list at p, new, of all that one cut makes -/
def spNext : Sp := fun vs H Q _ => ∃ f : W, vs = [txV f] ∧ f ≠ [] ∧ f.length ≤ 8 ∧ ∀ (ys : List W) (p : Addr) (H' : Hp), Rg.IsSrt ys (· ∈ Rg.rn f) → Same H H' → H p = none → H' p = some (.lst (ys.map txV)) → Q (.ref p) H'
def spNextF : Sp := fun vs H Q _ => ∃ f : W, vs = [txV f] ∧ Film f ∧ ∀ (ys : List W) (p : Addr) (H' : Hp), Rg.IsSrt ys (· ∈ Rg.rn f) → Same H H' → H p = none → H' p = some (.lst (ys.map txV)) → Q (.ref p) H'
section
variable {P : Program} {w : World} {K : PySem.W.Frag} {mg : Str → Option Value} {base : Heap} {f : Addr} {fd : FuncData}
theorem ok_ring_name (F : FnP K "ring_name" sRingName f fd) (T : Fr mg) (Dneed_film : Df P w K mg base "need_film" ["value"] 1 spNeedFilm) (Dleast_turn : Df P w K mg base "least_turn" ["film"] 2 spTurn) :
    FnOk P w K mg base CX0 3 f fd ["film"] spRingName := by
  refine F.ok scRingName (fun vs H Q E h => ?_) (fun cdv A outer s H vs Q E hr h => ?_)
  · obtain ⟨f, rfl, _⟩ := h
    rfl
  · obtain ⟨f, rfl, hf, k⟩ := h
    have hu := hu_of hr
    have nd := scRingName.nd
    refine ⟨_, PSs.nox (pss_cons (ps_expr (Dneed_film.call (hr.mono (by decide)) (by rfl) (pa_cons (pv 0) pa_nil)))
      (pss_one (ps_ret (Dleast_turn.call (hr.mono (by decide)) (by rfl) (pa_cons (pv 0) pa_nil))))), ?_⟩
    refine ⟨_, rfl, f, rfl, hf, fun H1 s1 => ?_⟩
    exact ⟨_, rfl, f, rfl, hf.ne, by have := hf.len; omega, fun H2 s2 => k H2 (s1.trans s2)⟩
theorem ok_same_ring (F : FnP K "same_ring" sSameRing f fd) (T : Fr mg) (Dneed_film : Df P w K mg base "need_film" ["value"] 1 spNeedFilm) (Dleast_turn : Df P w K mg base "least_turn" ["film"] 2 spTurn) :
    FnOk P w K mg base CX0 3 f fd ["one", "other"] spSameRing := by
  refine F.ok scSameRing (fun vs H Q E h => ?_) (fun cdv A outer s H vs Q E hr h => ?_)
  · obtain ⟨f, g, rfl, _⟩ := h
    rfl
  · obtain ⟨f, g, rfl, hf, hg, k⟩ := h
    have hu := hu_of hr
    have nd := scSameRing.nd
    refine ⟨_, PSs.nox (pss_cons (ps_expr (Dneed_film.call (hr.mono (by decide)) (by rfl) (pa_cons (pv 0) pa_nil)))
      (pss_cons (ps_expr (Dneed_film.call (hr.mono (by decide)) (by rfl) (pa_cons (pv 1) pa_nil)))
      (pss_one (ps_ret (pe_cmpR op_eq (Dleast_turn.call (hr.mono (by decide)) (by rfl) (pa_cons (pv 0) pa_nil)) (Dleast_turn.call (hr.mono (by decide)) (by rfl) (pa_cons (pv 1) pa_nil)) (nomark _)))))), ?_⟩
    refine ⟨_, rfl, f, rfl, hf, fun H1 s1 => ⟨_, rfl, g, rfl, hg, fun H2 s2 => ?_⟩⟩
    refine ⟨_, rfl, f, rfl, hf.ne, by have := hf.len; omega, fun H3 s3 => ⟨_, rfl, g, rfl, hg.ne, by have := hg.len; omega, fun H4 s4 => ⟨rfl, ?_⟩⟩⟩
    rw [tx_eqV]
    exact k H4 (s1.trans (s2.trans (s3.trans s4)))
theorem ok_need_ring (F : FnP K "need_ring" sNeedRing f fd) (T : Fr mg) (Dneed_film : Df P w K mg base "need_film" ["value"] 1 spNeedFilm) (Dneed_short : Df P w K mg base "need_short" ["film", "most"] 1 spNeedShort) :
    FnOk P w K mg base CX0 2 f fd ["film"] spNeedFilm := by
  refine F.ok scNeedRing (fun vs H Q E h => ?_) (fun cdv A outer s H vs Q E hr h => ?_)
  · obtain ⟨f, rfl, _⟩ := h
    rfl
  · obtain ⟨f, rfl, hf, k⟩ := h
    have hu := hu_of hr
    have nd := scNeedRing.nd
    refine ⟨_, PSs.nox (pss_cons (ps_expr (Dneed_film.call (hr.mono (by decide)) (by rfl) (pa_cons (pv 0) pa_nil)))
      (pss_one (ps_expr (Dneed_short.call (hr.mono (by decide)) (by rfl) (pa_cons (pv 0) (pa_cons (pe_globE rfl T.cMOST_RING) pa_nil)))))), ?_⟩
    exact ⟨_, rfl, f, rfl, hf, fun H1 s1 => ⟨_, rfl, f, 60, rfl, by have := hf.len; omega, hf.len, k H1 s1⟩⟩
theorem ok_ring_next_of (F : FnP K "ring_next_of" sRingNextOf f fd) (T : Fr mg) (Dturned : Df P w K mg base "turned" ["film", "place"] 1 spTurned) (Dleast_turn : Df P w K mg base "least_turn" ["film"] 2 spTurn) :
    FnOk P w K mg base CX0 3 f fd ["film"] spNext := by
  refine F.ok scRingNextOf (fun vs H Q E h => ?_) (fun cdv A outer s H vs Q E hr h => ?_)
  · obtain ⟨f, rfl, _⟩ := h
    rfl
  · obtain ⟨f, rfl, hf, h1, k⟩ := h
    have hu := hu_of hr
    have nd := scRingNextOf.nd
    refine ⟨_, PSs.nox (pss_cons (ps_set (i := 1) nd rfl (Or.inl rfl) pe_dnewK)
      (pss_cons (ps_for PassesOwn.never rfl (pi_range1 (by rfl) T.range (pa_cons (pe_callB call_len_str (by rfl) T.len bt_len (pa_cons (pv 0) pa_nil)) pa_nil)) (pg_name (i := 2) nd rfl (Or.inl rfl)) (pss_cons (ps_set (i := 3) nd rfl (Or.inl rfl) (Dturned.call (hr.mono (by decide)) (by rfl) (pa_cons (pv 0) (pa_cons (pv 2) pa_nil))))
      (pss_one (ps_for PassesOwn.never rfl (pi_range2 (by rfl) T.range (pa_cons pe_int (pa_cons (pe_callB call_len_str (by rfl) T.len bt_len (pa_cons (pv 3) pa_nil)) pa_nil))) (pg_name (i := 4) nd rfl (Or.inl rfl)) (pss_one (ps_if (pt_cmpR op_eq (pe_ix ix_str (pv 3) (pv 4) (fun _ _ => rfl)) (pe_ix ix_str (pv 3) pe_int (fun _ _ => rfl)) (nomark _)) (pss_one (ps_dput hu (pv 1) (Dleast_turn.call (hr.mono (by decide)) (by rfl) (pa_cons (pe_op op_add_str (pe_slice sl_str (pv 3) po_none (po_some pe_int)) (pe_slice sl_str (pv 3) (po_some (pe_op op_add (pv 4) pe_int)) po_none)) pa_nil)) pe_bl rfl)) pss_nil))))))
      (pss_one (ps_ret (pe_callB (cr_sortedDA rfl) (by rfl) T.sorted bt_sorted (pa_cons (pv 1) pa_nil)))))), ?_⟩
    have hl : (tx f).length ≤ sizeLine := txl (by omega)
    intro d hd
    refine ⟨_, rfl, _, rfl, hl, _, rfl, ?_, ?_, ?_⟩
    · rw [tx_len]; omega
    · rw [tx_len]; omega
    rw [tx_len, Int.toNat_natCast]
    refine for_it walk_range (fun i σ H1 => (∃ a b c, σ = [some (txV f), some (.ref d), a, b, c]) ∧ Same H H1 ∧ H1 d = some (.dK (kd (Rg.ded (Rg.rnTo f i)) (.bl true)))) ⟨⟨_, _, _, rfl⟩, same_upd hd, upd_same⟩ (fun _ _ _ _ _ => trivial) ?_ ?_
    · rintro i x σ H1 H2 hi ⟨⟨a, b, c, rfl⟩, s1, hD⟩ ⟨rfl, rfl⟩
      refine ⟨_, rfl, _, rfl, f, i, by simp, by omega, ?_⟩
      have rl : (Rg.rot f i).length = f.length := Rg.rot_len f i
      have rne : Rg.rot f i ≠ [] := (Rg.Sim.rot f i).ne hf
      have hl2 : (tx (Rg.rot f i)).length ≤ sizeLine := txl (by omega)
      refine ⟨_, rfl, _, rfl, hl2, _, _, rfl, ?_, ?_⟩
      · rw [tx_len]; omega
      refine for_it walk_range (fun j σ H1 => (∃ c, σ = [some (txV f), some (.ref d), some (.int (i : Int)), some (txV (Rg.rot f i)), c]) ∧ Same H H1 ∧ H1 d = some (.dK (kd (Rg.ded (Rg.rnTo f i ++ Rg.cutsTo (Rg.rot f i) (j + 1))) (.bl true)))) ⟨⟨c, by simp⟩, s1, ?_⟩ (fun _ _ _ _ _ => trivial) ?_ ?_
      · rw [Rg.cutsTo_one, List.append_nil]; exact hD
      · rintro j x σ H1 H3 hj ⟨⟨c, rfl⟩, s2, hD2⟩ ⟨rfl, ex⟩
        have ex := int_eq ex (show (1 : Int) + (j : Int) = ((j + 1 : Nat) : Int) by omega)
        subst ex
        have hj1 : j + 1 < (Rg.rot f i).length := by rw [tx_len] at hj; omega
        have hj0 : 0 < (Rg.rot f i).length := by omega
        refine ⟨_, rfl, _, rfl, _, _, _, rfl, rfl, hl2, atN rfl (List.getElem?_eq_getElem hj1), _, rfl, _, _, _, rfl, rfl, hl2, atN rfl (List.getElem?_eq_getElem hj0), rfl, _, rfl, iteB (fun e => ?_) fun e => ?_⟩
        · rw [sign_eqV] at e
          have e := of_decide_eq_true e
          have e2 : (Rg.rot f i)[j + 1]? = (Rg.rot f i)[0]? := by rw [List.getElem?_eq_getElem hj1, List.getElem?_eq_getElem hj0, e]
          refine ⟨_, rfl, _, rfl, _, rfl, _, rfl, hl2, _, rfl, _, rfl, _, _, rfl, rfl, _, rfl, _, rfl, hl2, _, _, rfl, rfl, ?_, (Rg.rot f i).take 1 ++ (Rg.rot f i).drop (j + 1 + 1), ?_, Rg.cut_ne rne _, ?_, fun H4 s4 => ?_⟩
          · rw [cut_m _ (i := 1) (k := 1) rfl, cut_n _ (k := j + 1 + 1) (by omega), tx_len, tx_len, List.length_drop, List.length_take]
            exact small_line (by omega)
          · rw [cut_m _ (i := 1) (k := 1) rfl, cut_n _ (k := j + 1 + 1) (by omega), tx_app]
            rfl
          · rw [List.length_append, List.length_drop, List.length_take]; omega
          · have hl3 := Rg.len_ded (Rg.rnTo f i ++ Rg.cutsTo (Rg.rot f i) (j + 1))
            have hl4 := Rg.rnTo_len f i
            have hl5 := Rg.cutsTo_len (Rg.rot f i) (j + 1)
            rw [List.length_append] at hl3
            have hl6 : i * f.length ≤ 8 * 8 := Nat.mul_le_mul (by omega) h1
            refine ⟨d, _, rfl, DPut.k (k := Sum.inr (tx (Rg.lturn ((Rg.rot f i).take 1 ++ (Rg.rot f i).drop (j + 1 + 1))))) (s4 _ _ hD2) (lt_line (by rw [kd_len]; omega)), ⟨_, rfl⟩, same_new (s2.trans s4) hd, ?_⟩
            rw [upd_same, putK_kd, ← Rg.ded_snoc, Rg.cutsTo_yes (by omega) e2, List.append_assoc]
        · rw [sign_eqV] at e
          have e := of_decide_eq_false e
          have e2 : (Rg.rot f i)[j + 1]? ≠ (Rg.rot f i)[0]? := by
            rw [List.getElem?_eq_getElem hj1, List.getElem?_eq_getElem hj0]
            intro q
            exact e (Option.some.inj q)
          refine ⟨⟨_, rfl⟩, s2, ?_⟩
          rw [Rg.cutsTo_no e2]
          exact hD2
      · rintro σ H1 ⟨⟨c, rfl⟩, s2, hD2⟩
        refine ⟨⟨_, _, _, rfl⟩, s2, ?_⟩
        rw [hD2, Rg.rnTo_succ, ← Rg.cutsTo_all, tx_len]
        have e3 : ((((Rg.rot f i).length : Nat) : Int) - 1).toNat + 1 = (Rg.rot f i).length := by omega
        rw [e3]
    · rintro σ H1 ⟨⟨a, b, c, rfl⟩, s1, hD⟩
      refine ⟨_, rfl, d, _, (Rg.ded (Rg.rn f)).map tx, rfl, .inl hD, kd_keys _ _, fun ys p hp hs np => ?_⟩
      obtain ⟨zs, rfl, hz⟩ := srt_of (Rg.nodup_ded _) hp hs
      rw [map_txV]
      refine k zs p _ ⟨hz.1, fun x => (hz.2 x).trans Rg.mem_ded⟩ (same_new s1 (s1.free np)) (s1.free np) upd_same
end
end G
set_option Elab.async false
set_option linter.all false
set_option maxRecDepth 100000
set_option maxHeartbeats 4000000
namespace G
open PySem PySem.Spec PyProof.Rows L2
open Rg (W)
section
variable {P : Program} {w : World} {K : PySem.W.Frag} {mg : Str → Option Value} {base : Heap} {f : Addr} {fd : FuncData}
theorem ok_ring_next (F : FnP K "ring_next" sRingNext f fd) (T : Fr mg) (Dneed_ring : Df P w K mg base "need_ring" ["film"] 2 spNeedFilm) (Dring_next_of : Df P w K mg base "ring_next_of" ["film"] 3 spNext) :
    FnOk P w K mg base CX0 4 f fd ["film"] spNextF := by
  refine F.ok scRingNext (fun vs H Q E h => ?_) (fun cdv A outer s H vs Q E hr h => ?_)
  · obtain ⟨f, rfl, _⟩ := h
    rfl
  · obtain ⟨f, rfl, hf, k⟩ := h
    have hu := hu_of hr
    have nd := scRingNext.nd
    refine ⟨_, PSs.nox (pss_cons (ps_expr (Dneed_ring.call (hr.mono (by decide)) (by rfl) (pa_cons (pv 0) pa_nil)))
      (pss_one (ps_ret (Dring_next_of.call (hr.mono (by decide)) (by rfl) (pa_cons (pv 0) pa_nil))))), ?_⟩
    exact ⟨_, rfl, f, rfl, hf, fun H1 s1 => ⟨_, rfl, f, rfl, hf.ne, hf.len, fun ys p H2 hy s2 np hp => k ys p H2 hy (s1.trans s2) (s1.free np) hp⟩⟩
theorem ok_law_turn (F : FnP K "_law_turn" sLawTurn f fd) (T : Fr mg) : FnOk P w K mg base CX0 1 f fd ["_law_film_here"] spTurn := by
  refine F.ok scLawTurn (fun vs H Q E h => ?_) (fun cdv A outer s H vs Q E hr h => ?_)
  · obtain ⟨f, rfl, _⟩ := h
    rfl
  · obtain ⟨f, rfl, hf, h1, k⟩ := h
    have hu := hu_of hr
    have nd := scLawTurn.nd
    refine ⟨_, PSs.nox (pss_one (ps_ret (pe_callB (cr_minS rfl) (by rfl) T.min bt_min (pa_cons (pe_lc (own := [("_law_place", 1)]) (g := (gName 1)) (tt := tYes) rfl nd (pi_range1 (by rfl) T.range (pa_cons (pe_callB call_len_str (by rfl) T.len bt_len (pa_cons (pv 0) pa_nil)) pa_nil)) (blkOk_by (N := nLawTurn) (sc := defScope sLawTurn) (by decide +kernel)) (fun _ _ _ _ _ => pg_name (i := 1) nd rfl (Or.inl rfl)) (fun _ _ _ _ _ => pts_nil) (fun _ _ _ _ _ => (pe_op op_add_str (pe_slice sl_str (pv 0) (po_some (pv 1)) po_none) (pe_slice sl_str (pv 0) po_none (po_some (pv 1)))))) pa_nil)))), ?_⟩
    have hl : (tx f).length ≤ sizeLine := txl (by omega)
    refine ⟨_, rfl, _, rfl, hl, _, rfl, ?_, ?_, fun D hD => ?_⟩
    · rw [tx_len]; omega
    · rw [tx_len]; omega
    rw [tx_len, Int.toNat_natCast]
    refine lc_it walk_range (PvL D H (mapL fun i => txV (Rg.rot f i))) (PvL.start hD rfl) (fun _ _ _ _ => trivial) ?_ ?_
    · rintro i x H1 H2 hi p ⟨rfl, ex⟩
      have ex := int_eq ex (show (0 : Int) + (i : Int) = (i : Int) by omega)
      subst ex
      refine ⟨rfl, tyes ?_⟩
      refine ⟨_, rfl, _, rfl, _, rfl, _, rfl, hl, _, rfl, _, rfl, _, rfl, _, rfl, hl, _, _, rfl, rfl, ?_, ?_⟩
      · rw [cut_from, cut_to, tx_len, tx_len, List.length_drop, List.length_take]
        exact small_line (by omega)
      rw [rot_tx]
      exact ⟨_, p.at_, lt_line (by rw [mapL_len]; omega), PvL.push hD p.same (mapL_succ _ _)⟩
    · intro H1 p
      refine ⟨D, (Rg.rots f).map tx, rfl, .of ?_, ?_, fun m hm hle => ?_⟩
      · rw [p.at_, mapL_rots]
      · simp [Rg.rots]
        exact List.length_pos_iff.mpr hf
      · rw [min_rots hf hm hle]
        exact k H1 p.same
theorem ok_law_ring_next (F : FnP K "_law_ring_next" sLawRingNext f fd) (T : Fr mg) (D_law_turn : Df P w K mg base "_law_turn" ["_law_film_here"] 1 spTurn) :
    FnOk P w K mg base CX0 2 f fd ["_law_film_here"] spNext := by
  refine F.ok scLawRingNext (fun vs H Q E h => ?_) (fun cdv A outer s H vs Q E hr h => ?_)
  · obtain ⟨f, rfl, _⟩ := h
    rfl
  · obtain ⟨f, rfl, hf, h1, k⟩ := h
    have hu := hu_of hr
    have nd := scLawRingNext.nd
    refine ⟨_, PSs.nox (pss_cons (ps_set (i := 1) nd rfl (Or.inl rfl) pe_dnewK)
      (pss_cons (ps_for PassesOwn.never rfl (pi_range1 (by rfl) T.range (pa_cons (pe_callB call_len_str (by rfl) T.len bt_len (pa_cons (pv 0) pa_nil)) pa_nil)) (pg_name (i := 2) nd rfl (Or.inl rfl)) (pss_cons (ps_set (i := 3) nd rfl (Or.inl rfl) (pe_op op_add_str (pe_slice sl_str (pv 0) (po_some (pv 2)) po_none) (pe_slice sl_str (pv 0) po_none (po_some (pv 2)))))
      (pss_one (ps_for PassesOwn.never rfl (pi_range2 (by rfl) T.range (pa_cons pe_int (pa_cons (pe_callB call_len_str (by rfl) T.len bt_len (pa_cons (pv 3) pa_nil)) pa_nil))) (pg_name (i := 4) nd rfl (Or.inl rfl)) (pss_one (ps_if (pt_cmpR op_eq (pe_ix ix_str (pv 3) (pv 4) (fun _ _ => rfl)) (pe_ix ix_str (pv 3) pe_int (fun _ _ => rfl)) (nomark _)) (pss_one (ps_dput hu (pv 1) (D_law_turn.call (hr.mono (by decide)) (by rfl) (pa_cons (pe_op op_add_str (pe_slice sl_str (pv 3) po_none (po_some pe_int)) (pe_slice sl_str (pv 3) (po_some (pe_op op_add (pv 4) pe_int)) po_none)) pa_nil)) pe_bl rfl)) pss_nil))))))
      (pss_one (ps_ret (pe_callB cr_sortedSA (by rfl) T.sorted bt_sorted (pa_cons (pe_callTy (call_list_dK rfl) (by rfl) T.list bt_list (pa_cons (pv 1) pa_nil)) pa_nil)))))), ?_⟩
    have hl : (tx f).length ≤ sizeLine := txl (by omega)
    intro d hd
    refine ⟨_, rfl, _, rfl, hl, _, rfl, ?_, ?_, ?_⟩
    · rw [tx_len]; omega
    · rw [tx_len]; omega
    rw [tx_len, Int.toNat_natCast]
    refine for_it walk_range (fun i σ H1 => (∃ a b c, σ = [some (txV f), some (.ref d), a, b, c]) ∧ Same H H1 ∧ H1 d = some (.dK (kd (Rg.ded (Rg.rnTo f i)) (.bl true)))) ⟨⟨_, _, _, rfl⟩, same_upd hd, upd_same⟩ (fun _ _ _ _ _ => trivial) ?_ ?_
    · rintro i x σ H1 H2 hi ⟨⟨a, b, c, rfl⟩, s1, hD⟩ ⟨rfl, rfl⟩
      have e0 := int_eq (show V.int (0 + (i : Int)) = .int (0 + (i : Int)) from rfl) (show (0 : Int) + (i : Int) = (i : Int) by omega)
      show tSeq _ _ _ ([some (txV f), some (.ref d), some (V.int (0 + (i : Int))), b, c] : L2.St) _
      rw [e0]
      refine ⟨_, rfl, _, rfl, _, rfl, _, rfl, hl, _, rfl, _, rfl, _, rfl, _, rfl, hl, _, _, rfl, rfl, ?_, ?_⟩
      · rw [cut_from, cut_to, tx_len, tx_len, List.length_drop, List.length_take]
        exact small_line (by omega)
      rw [rot_tx]
      have rl : (Rg.rot f i).length = f.length := Rg.rot_len f i
      have rne : Rg.rot f i ≠ [] := (Rg.Sim.rot f i).ne hf
      have hl2 : (tx (Rg.rot f i)).length ≤ sizeLine := txl (by omega)
      refine ⟨_, rfl, _, rfl, hl2, _, _, rfl, ?_, ?_⟩
      · rw [tx_len]; omega
      refine for_it walk_range (fun j σ H1 => (∃ c, σ = [some (txV f), some (.ref d), some (.int (i : Int)), some (txV (Rg.rot f i)), c]) ∧ Same H H1 ∧ H1 d = some (.dK (kd (Rg.ded (Rg.rnTo f i ++ Rg.cutsTo (Rg.rot f i) (j + 1))) (.bl true)))) ⟨⟨c, by simp⟩, s1, ?_⟩ (fun _ _ _ _ _ => trivial) ?_ ?_
      · rw [Rg.cutsTo_one, List.append_nil]; exact hD
      · rintro j x σ H1 H3 hj ⟨⟨c, rfl⟩, s2, hD2⟩ ⟨rfl, ex⟩
        have ex := int_eq ex (show (1 : Int) + (j : Int) = ((j + 1 : Nat) : Int) by omega)
        subst ex
        have hj1 : j + 1 < (Rg.rot f i).length := by rw [tx_len] at hj; omega
        have hj0 : 0 < (Rg.rot f i).length := by omega
        refine ⟨_, rfl, _, rfl, _, _, _, rfl, rfl, hl2, atN rfl (List.getElem?_eq_getElem hj1), _, rfl, _, _, _, rfl, rfl, hl2, atN rfl (List.getElem?_eq_getElem hj0), rfl, _, rfl, iteB (fun e => ?_) fun e => ?_⟩
        · rw [sign_eqV] at e
          have e := of_decide_eq_true e
          have e2 : (Rg.rot f i)[j + 1]? = (Rg.rot f i)[0]? := by rw [List.getElem?_eq_getElem hj1, List.getElem?_eq_getElem hj0, e]
          refine ⟨_, rfl, _, rfl, _, rfl, _, rfl, hl2, _, rfl, _, rfl, _, _, rfl, rfl, _, rfl, _, rfl, hl2, _, _, rfl, rfl, ?_, (Rg.rot f i).take 1 ++ (Rg.rot f i).drop (j + 1 + 1), ?_, Rg.cut_ne rne _, ?_, fun H4 s4 => ?_⟩
          · rw [cut_m _ (i := 1) (k := 1) rfl, cut_n _ (k := j + 1 + 1) (by omega), tx_len, tx_len, List.length_drop, List.length_take]
            exact small_line (by omega)
          · rw [cut_m _ (i := 1) (k := 1) rfl, cut_n _ (k := j + 1 + 1) (by omega), tx_app]
            rfl
          · rw [List.length_append, List.length_drop, List.length_take]; omega
          · have hl3 := Rg.len_ded (Rg.rnTo f i ++ Rg.cutsTo (Rg.rot f i) (j + 1))
            have hl4 := Rg.rnTo_len f i
            have hl5 := Rg.cutsTo_len (Rg.rot f i) (j + 1)
            rw [List.length_append] at hl3
            have hl6 : i * f.length ≤ 8 * 8 := Nat.mul_le_mul (by omega) h1
            refine ⟨d, _, rfl, DPut.k (k := Sum.inr (tx (Rg.lturn ((Rg.rot f i).take 1 ++ (Rg.rot f i).drop (j + 1 + 1))))) (s4 _ _ hD2) (lt_line (by rw [kd_len]; omega)), ⟨_, rfl⟩, same_new (s2.trans s4) hd, ?_⟩
            rw [upd_same, putK_kd, ← Rg.ded_snoc, Rg.cutsTo_yes (by omega) e2, List.append_assoc]
        · rw [sign_eqV] at e
          have e := of_decide_eq_false e
          have e2 : (Rg.rot f i)[j + 1]? ≠ (Rg.rot f i)[0]? := by
            rw [List.getElem?_eq_getElem hj1, List.getElem?_eq_getElem hj0]
            intro q
            exact e (Option.some.inj q)
          refine ⟨⟨_, rfl⟩, s2, ?_⟩
          rw [Rg.cutsTo_no e2]
          exact hD2
      · rintro σ H1 ⟨⟨c, rfl⟩, s2, hD2⟩
        refine ⟨⟨_, _, _, rfl⟩, s2, ?_⟩
        rw [hD2, Rg.rnTo_succ, ← Rg.cutsTo_all, tx_len]
        have e3 : ((((Rg.rot f i).length : Nat) : Int) - 1).toNat + 1 = (Rg.rot f i).length := by omega
        rw [e3]
    · rintro σ H1 ⟨⟨a, b, c, rfl⟩, s1, hD⟩
      refine ⟨_, rfl, d, _, rfl, hD, fun q hq => ?_⟩
      have hkeys : (kd (Rg.ded (Rg.rn f)) (.bl true)).map (fun kv => kV kv.1) = ((Rg.ded (Rg.rn f)).map tx).map V.str := by simp [kd, List.map_map, Function.comp_def, kV]
      refine ⟨q, (Rg.ded (Rg.rn f)).map tx, rfl, .of (by rw [upd_same]; exact congrArg (fun l => some (HO.lst l)) hkeys), fun ys p hp hs np => ?_⟩
      obtain ⟨zs, rfl, hz⟩ := srt_of (Rg.nodup_ded _) hp hs
      rw [map_txV]
      refine k zs p _ ⟨hz.1, fun x => (hz.2 x).trans Rg.mem_ded⟩ (same_new (same_new s1 (s1.free hq)) ((same_new s1 (s1.free hq)).free np)) ((same_new s1 (s1.free hq)).free np) upd_same
end
end G
set_option Elab.async false
set_option linter.all false
set_option maxRecDepth 100000
set_option maxHeartbeats 4000000
/-! a list compared with []. -/
namespace G
open PySem PySem.Spec PyProof.Rows L2
open Rg (W)
/-- data of little depth -/
def Ok3 (K : PySem.W.Frag) (H : Hp) (v : V) : Prop := ∃ d, Dp K H v d ∧ d.canLay0 = true ∧ d.depth ≤ 3
theorem ok3_int {K : PySem.W.Frag} {H : Hp} (i : Int) : Ok3 K H (.int i) := ⟨_, .int i, by simp [PyData.canLay0], by simp [PyData.depth]⟩
theorem ok3_tup2 {K : PySem.W.Frag} {H : Hp} {a : Addr} {i j : Int} (h : H a = some (.tup [.int i, .int j])) : Ok3 K H (.ref a) :=
  ⟨_, .tup (.of h) (.cons (.int i) (.cons (.int j) .nil)), by simp [PyData.canLay0, PyData.canLayAll0], by simp [PyData.depth, PyData.depthAll]⟩
theorem dpAll_of {K : PySem.W.Frag} {H : Hp} : ∀ {xs : List V}, (∀ v ∈ xs, Ok3 K H v) → ∃ ds, DpAll K H xs ds ∧ PyData.canLayAll0 ds = true ∧ PyData.depthAll ds ≤ 3
  | [], _ => ⟨[], .nil, by simp [PyData.canLayAll0], by simp [PyData.depthAll]⟩
  | v :: xs, h => by
    obtain ⟨d, h1, h2, h3⟩ := h v List.mem_cons_self
    obtain ⟨ds, g1, g2, g3⟩ := dpAll_of fun w hw => h w (List.mem_cons_of_mem _ hw)
    exact ⟨d :: ds, .cons h1 g1, by simp [PyData.canLayAll0, h2, g2], by simp [PyData.depthAll]; omega⟩
theorem shaped_list {ds : List PyData} (h1 : PyData.canLayAll0 ds = true) (h2 : PyData.depthAll ds ≤ 3) : SeqAt.shaped (.list ds) = true := by
  unfold SeqAt.shaped
  simp [PyData.canLay0, PyData.depth, h1]
  omega
theorem eqv_nil {ds : List PyData} {xs : List V} {K : PySem.W.Frag} {H : Hp} (h : DpAll K H xs ds) : PyData.eqv (.list ds) (.list []) = xs.isEmpty := by
  cases h with
  | nil => simp [PyData.eqv, PyData.eqvAll]
  | cons => simp [PyData.eqv, PyData.eqvAll]
theorem eqNil {K : PySem.W.Frag} {H : Hp} {a b : Addr} {xs : List V} {Q : VK} (ha : SqL K H a xs) (hb : SqL K H b []) (hx : ∀ v ∈ xs, Ok3 K H v) (q : Q (.bl xs.isEmpty) H) : rEqD K (.ref a) (.ref b) H Q := by
  obtain ⟨ds, g1, g2, g3⟩ := dpAll_of hx
  refine ⟨.list ds, .list [], .lst ha g1, .lst hb .nil, shaped_list g2 g3, shaped_list (by simp [PyData.canLayAll0]) (by simp [PyData.depthAll]), ?_⟩
  rw [eqv_nil g1]
  exact q
theorem neNil {K : PySem.W.Frag} {H : Hp} {a b : Addr} {xs : List V} {Q : VK} (ha : SqL K H a xs) (hb : SqL K H b []) (hx : ∀ v ∈ xs, Ok3 K H v) (q : Q (.bl (!xs.isEmpty)) H) : rNeD K (.ref a) (.ref b) H Q := by
  obtain ⟨ds, g1, g2, g3⟩ := dpAll_of hx
  refine ⟨.list ds, .list [], .lst ha g1, .lst hb .nil, shaped_list g2 g3, shaped_list (by simp [PyData.canLayAll0]) (by simp [PyData.depthAll]), ?_⟩
  rw [eqv_nil g1]
  exact q
/-- items of a list, by their places, that a test takes -/
def filT {α : Type} (p : α → Bool) (F : α → V) (xs : List α) (i : Nat) : List V := ((xs.take i).filter p).map F
theorem take_succ {α : Type} {xs : List α} {i : Nat} {x : α} (h : xs[i]? = some x) : xs.take (i + 1) = xs.take i ++ [x] := by
  rw [List.take_succ, h]
  rfl
theorem filT_yes {α : Type} {p : α → Bool} {F : α → V} {xs : List α} {i : Nat} {x : α} (h : xs[i]? = some x) (e : p x = true) : filT p F xs (i + 1) = filT p F xs i ++ [F x] := by
  unfold filT
  rw [take_succ h, List.filter_append, List.map_append]
  simp [e]
theorem filT_no {α : Type} {p : α → Bool} {F : α → V} {xs : List α} {i : Nat} {x : α} (h : xs[i]? = some x) (e : p x = false) : filT p F xs (i + 1) = filT p F xs i := by
  unfold filT
  rw [take_succ h, List.filter_append, List.map_append]
  simp [e]
theorem filT_all {α : Type} (p : α → Bool) (F : α → V) (xs : List α) : filT p F xs xs.length = (xs.filter p).map F := by
  unfold filT
  rw [List.take_length]
theorem filT_len {α : Type} (p : α → Bool) (F : α → V) (xs : List α) (i : Nat) : (filT p F xs i).length ≤ xs.length := by
  unfold filT
  rw [List.length_map]
  exact Nat.le_trans (List.length_filter_le _ _) (by rw [List.length_take]; omega)
theorem at_map {α : Type} {F : α → V} {xs : List α} {i : Nat} {v : V} (h : (xs.map F)[i]? = some v) : ∃ x, xs[i]? = some x ∧ v = F x := by
  rw [List.getElem?_map] at h
  obtain ⟨x, h1, h2⟩ := Option.map_eq_some_iff.mp h
  exact ⟨x, h1, h2.symm⟩
end G
set_option linter.all false
/-! The plain law, part 3: partings by prefixes; how many there are; last rings; periods. -/
namespace Rg
theorem pc_nil_goal {f : W} {c : Nat} : Pc f [] c ↔ f = [] ∧ c = 0 := by
  constructor
  · intro p
    cases p
    exact ⟨rfl, rfl⟩
  · rintro ⟨rfl, rfl⟩
    exact .nil
theorem pc_snoc_of {u g : W} {c : Nat} (p : Pc u g c) {a : Nat} {v : W} (b : Blk a v) : Pc (u ++ v) (g ++ [a]) (c + wt v) := by
  induction p with
  | nil =>
    have := Pc.cons b .nil
    simpa using this
  | @cons a' u' v' g' c' b' p ih =>
    have := Pc.cons b' ih
    rw [List.append_assoc, Nat.add_assoc]
    exact this
theorem pc_snoc {a : Nat} : ∀ {g f : W} {c : Nat}, Pc f (g ++ [a]) c → ∃ u v c', f = u ++ v ∧ Pc u g c' ∧ Blk a v ∧ c = c' + wt v
  | [], f, c, p => by
    cases p with
    | @cons _ u v _ c b p =>
      obtain ⟨rfl, rfl⟩ := pc_nil_goal.mp p
      exact ⟨[], u, 0, by simp, .nil, b, by simp⟩
  | x :: g, f, c, p => by
    cases p with
    | @cons _ u v _ c b p =>
      obtain ⟨u2, v2, c2, e1, e2, e3, e4⟩ := pc_snoc (g := g) p
      refine ⟨u ++ u2, v2, wt u + c2, by rw [e1, List.append_assoc], .cons b e2, e3, by omega⟩
theorem blk_at {f : W} {q p a : Nat} (h : q ≤ p) (hp : p < f.length) : Blk a ((f.take (p + 1)).drop q) ↔ f[q]? = some a ∧ f[p]? = some a := by
  unfold Blk
  have h1 : ((f.take (p + 1)).drop q).head? = f[q]? := by
    rw [List.head?_drop, List.getElem?_take]
    rw [if_pos (by omega)]
  have h2 : ((f.take (p + 1)).drop q).getLast? = f[p]? := by
    rw [List.getLast?_eq_getElem?, List.length_drop, List.length_take, List.getElem?_drop, List.getElem?_take]
    rw [if_pos (by omega)]
    congr 1
    omega
  rw [h1, h2]
/-- the last block, with its cost -/
theorem pc_last {f g : W} {a p : Nat} (hp : p < f.length) {c : Nat} : Pc (f.take (p + 1)) (g ++ [a]) c ↔ ∃ q c', q ≤ p ∧ Pc (f.take q) g c' ∧ f[q]? = some a ∧ f[p]? = some a ∧ c = c' + (if q < p then 1 else 0) := by
  constructor
  · intro h
    obtain ⟨u, v, c', e1, e2, e3, e4⟩ := pc_snoc h
    have lv : 0 < v.length := List.length_pos_iff.mpr e3.ne
    have l : u.length + v.length = p + 1 := by
      have := congrArg List.length e1
      rw [List.length_take, List.length_append] at this
      omega
    have eu : u = f.take u.length := by
      have := congrArg (List.take u.length) e1
      rw [List.take_left, List.take_take, Nat.min_eq_left (by omega)] at this
      exact this.symm
    have ev : v = (f.take (p + 1)).drop u.length := by rw [e1, List.drop_left]
    rw [ev] at e3
    obtain ⟨h1, h2⟩ := (blk_at (by omega) hp).mp e3
    refine ⟨u.length, c', by omega, eu ▸ e2, h1, h2, ?_⟩
    rw [e4]
    unfold wt
    congr 1
    split <;> split <;> omega
  · rintro ⟨q, c', h1, h2, h3, h4, rfl⟩
    have b := (blk_at (f := f) h1 hp).mpr ⟨h3, h4⟩
    have := pc_snoc_of h2 b
    have e : f.take q ++ (f.take (p + 1)).drop q = f.take (p + 1) := by
      conv => rhs; rw [← List.take_append_drop q (f.take (p + 1))]
      rw [List.take_take, Nat.min_eq_left (by omega)]
    rw [e] at this
    have ew : wt ((f.take (p + 1)).drop q) = if q < p then 1 else 0 := by
      unfold wt
      rw [List.length_drop, List.length_take]
      split <;> split <;> omega
    rw [ew] at this
    exact this
/-- the film up to q can be parted for g -/
def PP (f g : W) (q : Nat) : Prop := ∃ c, Pc (f.take q) g c
theorem pp_nil {f : W} (hf : f ≠ []) {q : Nat} : PP f [] q ↔ q = 0 := by
  unfold PP
  constructor
  · rintro ⟨c, h⟩
    have := (pc_nil_goal.mp h).1
    rcases Nat.eq_zero_or_pos q with e | e
    · exact e
    · rw [List.take_eq_nil_iff] at this
      rcases this with z | z
      · exact z
      · exact absurd z hf
  · rintro rfl
    exact ⟨0, by simpa using Pc.nil⟩
theorem pp_snoc {f g : W} {a p : Nat} (hp : p < f.length) : PP f (g ++ [a]) (p + 1) ↔ ∃ q, q ≤ p ∧ PP f g q ∧ f[q]? = some a ∧ f[p]? = some a := by
  unfold PP
  constructor
  · rintro ⟨c, h⟩
    obtain ⟨q, c', h1, h2, h3, h4, _⟩ := (pc_last hp).mp h
    exact ⟨q, h1, ⟨c', h2⟩, h3, h4⟩
  · rintro ⟨q, h1, ⟨c', h2⟩, h3, h4⟩
    exact ⟨_, (pc_last hp).mpr ⟨q, c', h1, h2, h3, h4, rfl⟩⟩
theorem pp_snoc_zero {f g : W} {a : Nat} : ¬ PP f (g ++ [a]) 0 := by
  rintro ⟨c, h⟩
  have e : f.take 0 = [] := by simp
  rw [e] at h
  generalize hg : g ++ [a] = k at h
  generalize hf : ([] : W) = m at h
  cases h with
  | nil => simp at hg
  | cons b _ =>
    have := b.ne
    simp at hf
    exact this hf.1
theorem pp_more {f g k : W} {q : Nat} (h : PP f (g ++ k) q) : ∃ r, r ≤ q ∧ PP f g r ∧ (k ≠ [] → f[r]? = k[0]? ∧ r < f.length) := by
  induction k generalizing g q with
  | nil => exact ⟨q, Nat.le_refl _, by simpa using h, fun z => absurd rfl z⟩
  | cons a k ih =>
    have e : g ++ a :: k = (g ++ [a]) ++ k := by simp
    rw [e] at h
    obtain ⟨r, hr, h2, h3⟩ := ih h
    cases r with
    | zero => exact absurd h2 pp_snoc_zero
    | succ r =>
      by_cases hl : r < f.length
      · obtain ⟨s, h4, h5, h6, h7⟩ := (pp_snoc hl).mp h2
        exact ⟨s, by omega, h5, fun _ => ⟨by simpa using h6, by omega⟩⟩
      · -- beyond the end: the same as at the end
        have ef : f.take (r + 1) = f.take f.length := by rw [List.take_of_length_le (by omega), List.take_of_length_le (Nat.le_refl _)]
        obtain ⟨c, h8⟩ := h2
        rw [ef] at h8
        cases hlen : f.length with
        | zero =>
          rw [hlen] at h8
          exact absurd ⟨c, h8⟩ pp_snoc_zero
        | succ m =>
          rw [hlen] at h8
          obtain ⟨s, h4, h5, h6, h7⟩ := (pp_snoc (by omega)).mp ⟨c, h8⟩
          exact ⟨s, by omega, h5, fun _ => ⟨by simpa using h6, by omega⟩⟩
/-- how many blocks -/
def Pre (f : W) (q k : Nat) : Prop := ∃ g : W, g.length = k ∧ PP f g q
theorem pre_zero {f : W} (hf : f ≠ []) {q : Nat} : Pre f q 0 ↔ q = 0 := by
  unfold Pre
  constructor
  · rintro ⟨g, h1, h2⟩
    have : g = [] := List.length_eq_zero_iff.mp h1
    rw [this] at h2
    exact (pp_nil hf).mp h2
  · rintro rfl
    exact ⟨[], rfl, (pp_nil hf).mpr rfl⟩
theorem pre_succ {f : W} {p k : Nat} (hp : p < f.length) : Pre f (p + 1) (k + 1) ↔ ∃ q, q ≤ p ∧ Pre f q k ∧ f[q]? = f[p]? := by
  constructor
  · rintro ⟨g, h1, h2⟩
    rcases List.eq_nil_or_concat g with e | ⟨g', a, e⟩
    · rw [e] at h1; simp at h1
    · rw [List.concat_eq_append] at e
      subst e
      obtain ⟨q, h3, h4, h5, h6⟩ := (pp_snoc hp).mp h2
      exact ⟨q, h3, ⟨g', by simpa using h1, h4⟩, by rw [h5, h6]⟩
  · rintro ⟨q, h1, ⟨g, h2, h3⟩, h4⟩
    refine ⟨g ++ [f[p]], by simp [h2], (pp_snoc hp).mpr ⟨q, h1, h3, ?_, List.getElem?_eq_getElem hp⟩⟩
    rw [h4, List.getElem?_eq_getElem hp]
theorem pre_zero_succ {f : W} {k : Nat} : ¬ Pre f 0 (k + 1) := by
  rintro ⟨g, h1, h2⟩
  rcases List.eq_nil_or_concat g with e | ⟨g', a, e⟩
  · rw [e] at h1; simp at h1
  · rw [List.concat_eq_append] at e
    subst e
    exact pp_snoc_zero h2
/-! ### how many partings -/
mutual
/-- partings of a film for a goal -/
def cw : W → W → Nat
  | [], f => if f = [] then 1 else 0
  | a :: g, f => if f.head? = some a then cb a g f else 0
termination_by g f => (g.length, f.length + 1)
/-- the first block begun: its end is here or further on -/
def cb (a : Nat) (g : W) : W → Nat
  | [] => 0
  | x :: f => (if x = a then cw g f else 0) + cb a g f
termination_by f => (g.length + 1, f.length)
end
/-! ### last rings -/
theorem Sim.nodup {f g : W} (h : Sim f g) : f.Nodup ↔ g.Nodup := by
  obtain ⟨a, b, rfl, rfl⟩ := h
  rw [List.nodup_append, List.nodup_append]
  constructor
  · rintro ⟨h1, h2, h3⟩
    exact ⟨h2, h1, fun x hx y hy e => h3 y hy x hx e.symm⟩
  · rintro ⟨h1, h2, h3⟩
    exact ⟨h2, h1, fun x hx y hy e => h3 y hy x hx e.symm⟩
theorem rn_nil {f : W} (hf : f ≠ []) : rn f = [] ↔ f.Nodup := by
  constructor
  · intro e
    unfold List.Nodup
    rw [List.pairwise_iff_getElem]
    intro i j hi hj hij q
    have e1 : f = f.take i ++ f[i] :: (f.drop (i + 1)) := by
      conv => lhs; rw [← List.take_append_drop i f, List.drop_eq_getElem_cons hi]
    have e2 : f.drop (i + 1) = (f.drop (i + 1)).take (j - i - 1) ++ f[i] :: f.drop (j + 1) := by
      conv => lhs; rw [← List.take_append_drop (j - i - 1) (f.drop (i + 1))]
      rw [List.drop_drop]
      have : i + 1 + (j - i - 1) = j := by omega
      rw [this, List.drop_eq_getElem_cons hj, q]
    have c : Cut f (f[i] :: (f.drop (j + 1) ++ f.take i)) := by
      refine ⟨f[i], (f.drop (i + 1)).take (j - i - 1), f.drop (j + 1) ++ f.take i, ?_, Sim.refl _⟩
      refine ⟨f.take i, f[i] :: f.drop (i + 1), e1, ?_⟩
      rw [e2]
      simp
      rw [← e2]
    have := (mem_rn hf).mpr ⟨_, c, rfl⟩
    rw [e] at this
    simp at this
  · intro hn
    cases h : rn f with
    | nil => rfl
    | cons g l =>
      exfalso
      have : g ∈ rn f := by rw [h]; exact List.mem_cons_self
      obtain ⟨k, ⟨x, u, v, a, b⟩, _⟩ := (mem_rn hf).mp this
      have := a.nodup.mp hn
      simp at this
/-! ### periods -/
def per (f : W) : Int := (((List.range f.length).filter fun i => decide (rot f (i + 1) = f)).map fun i => ((i + 1 : Nat) : Int)).headD 0
theorem per_ne {f : W} (hf : f ≠ []) : ((List.range f.length).filter fun i => decide (rot f (i + 1) = f)) ≠ [] := by
  intro e
  have hl : 0 < f.length := List.length_pos_iff.mpr hf
  have : f.length - 1 ∈ (List.range f.length).filter fun i => decide (rot f (i + 1) = f) := by
    rw [List.mem_filter]
    refine ⟨List.mem_range.mpr (by omega), decide_eq_true ?_⟩
    have : f.length - 1 + 1 = f.length := by omega
    rw [this]
    simp [rot]
  rw [e] at this
  simp at this
end Rg
set_option linter.all false
/-! The plain law, part 4: what begin does with one letter. -/
namespace Rg
/-- where the blocks can end -/
def endsOf (f : W) (c q0 : Nat) : List Nat := ((List.range (f.length - q0)).filter fun i => decide (f[q0 + i]? = some c)).map fun i => q0 + i
theorem mem_ends {f : W} {c q0 p : Nat} : p ∈ endsOf f c q0 ↔ q0 ≤ p ∧ p < f.length ∧ f[p]? = some c := by
  unfold endsOf
  simp only [List.mem_map, List.mem_filter, List.mem_range, decide_eq_true_eq]
  constructor
  · rintro ⟨i, ⟨h1, h2⟩, rfl⟩
    exact ⟨by omega, by omega, h2⟩
  · rintro ⟨h1, h2, h3⟩
    refine ⟨p - q0, ⟨by omega, ?_⟩, by omega⟩
    have : q0 + (p - q0) = p := by omega
    rw [this]
    exact h3
theorem range_lt : ∀ n : Nat, (List.range n).Pairwise (· < ·)
  | 0 => by simp
  | n + 1 => by
    rw [List.range_succ, List.pairwise_append]
    refine ⟨range_lt n, by simp, fun a ha b hb => ?_⟩
    rw [List.mem_singleton] at hb
    rw [hb]
    exact List.mem_range.mp ha
theorem ends_lt (f : W) (c q0 : Nat) : (endsOf f c q0).Pairwise (· < ·) := by
  unfold endsOf
  rw [List.pairwise_map]
  exact ((range_lt _).filter _).imp fun h => by omega
/-- the starts of a letter's blocks -/
def goodOf (f : W) (c : Nat) (ss : List Nat) : List Nat := ss.filter fun q => decide (q < f.length) && decide (f[q]? = some c)
structure StartsOk (f pre : W) (ss : List Nat) : Prop where
  lt : ss.Pairwise (· < ·)
  mem : ∀ q, q ∈ ss ↔ q ≤ f.length ∧ PP f pre q
theorem starts_zero {f : W} (hf : f ≠ []) : StartsOk f [] [0] := ⟨by simp, fun q => by
  rw [pp_nil hf]
  simp
  omega⟩
theorem good_mem {f : W} {c : Nat} {ss : List Nat} {q : Nat} : q ∈ goodOf f c ss ↔ q ∈ ss ∧ f[q]? = some c := by
  unfold goodOf
  simp only [List.mem_filter, Bool.and_eq_true, decide_eq_true_eq]
  constructor
  · rintro ⟨h1, h2, h3⟩
    exact ⟨h1, h3⟩
  · rintro ⟨h1, h2⟩
    exact ⟨h1, (List.getElem?_eq_some_iff.mp h2).1, h2⟩
theorem StartsOk.len {f pre : W} {ss : List Nat} (s : StartsOk f pre ss) : ss.length ≤ f.length + 1 := by
  have hn : ss.Nodup := s.lt.imp fun h => Nat.ne_of_lt h
  have := pigeon ss (List.range (f.length + 1)) hn fun x hx => List.mem_range.mpr (by have := ((s.mem x).mp hx).1; omega)
  simpa using this
theorem begin_stop {f pre : W} {c : Nat} {rest : W} {ss : List Nat} (s : StartsOk f pre ss) (h : goodOf f c ss = []) : ¬ PP f (pre ++ c :: rest) f.length := by
  intro p
  obtain ⟨r, h1, h2, h3⟩ := pp_more p
  obtain ⟨h4, h5⟩ := h3 (by simp)
  have : r ∈ goodOf f c ss := good_mem.mpr ⟨(s.mem r).mpr ⟨by omega, h2⟩, by simpa using h4⟩
  rw [h] at this
  simp at this
theorem begin_mem {f pre : W} {c q0 : Nat} {ss r : List Nat} (s : StartsOk f pre ss) (h : goodOf f c ss = q0 :: r) (p : Nat) : p ∈ endsOf f c q0 ↔ p < f.length ∧ PP f (pre ++ [c]) (p + 1) := by
  have h0 : q0 ∈ goodOf f c ss := by rw [h]; exact List.mem_cons_self
  obtain ⟨g1, g2⟩ := good_mem.mp h0
  have gl : (goodOf f c ss).Pairwise (· < ·) := s.lt.filter _
  rw [h] at gl
  rw [mem_ends]
  constructor
  · rintro ⟨h1, h2, h3⟩
    exact ⟨h2, (pp_snoc h2).mpr ⟨q0, h1, ((s.mem q0).mp g1).2, g2, h3⟩⟩
  · rintro ⟨h1, h2⟩
    obtain ⟨q, h3, h4, h5, h6⟩ := (pp_snoc h1).mp h2
    have hq : q ∈ goodOf f c ss := good_mem.mpr ⟨(s.mem q).mpr ⟨by omega, h4⟩, h5⟩
    rw [h] at hq
    have : q0 ≤ q := by
      rcases List.mem_cons.mp hq with e | e
      · omega
      · exact Nat.le_of_lt ((List.pairwise_cons.mp gl).1 q e)
    exact ⟨by omega, h1, h6⟩
theorem begin_step {f pre : W} {c q0 : Nat} {ss r : List Nat} (s : StartsOk f pre ss) (h : goodOf f c ss = q0 :: r) : StartsOk f (pre ++ [c]) ((endsOf f c q0).map (· + 1)) := by
  refine ⟨?_, fun q => ?_⟩
  · rw [List.pairwise_map]
    exact (ends_lt f c q0).imp fun h => by omega
  · cases q with
    | zero =>
      constructor
      · intro h
        simp at h
      · rintro ⟨_, h⟩
        exact absurd h pp_snoc_zero
    | succ p =>
      have : p + 1 ∈ (endsOf f c q0).map (· + 1) ↔ p ∈ endsOf f c q0 := by simp
      rw [this, begin_mem s h p]
      constructor
      · rintro ⟨h1, h2⟩
        exact ⟨by omega, h2⟩
      · rintro ⟨h1, h2⟩
        exact ⟨by omega, h2⟩
theorem begin_ne {f pre : W} {c q0 : Nat} {ss r : List Nat} (s : StartsOk f pre ss) (h : goodOf f c ss = q0 :: r) : q0 < f.length ∧ endsOf f c q0 ≠ [] := by
  have h0 : q0 ∈ goodOf f c ss := by rw [h]; exact List.mem_cons_self
  obtain ⟨g1, g2⟩ := good_mem.mp h0
  have hl := (List.getElem?_eq_some_iff.mp g2).1
  refine ⟨hl, fun e => ?_⟩
  have : q0 ∈ endsOf f c q0 := mem_ends.mpr ⟨Nat.le_refl _, hl, g2⟩
  rw [e] at this
  simp at this
/-- the last of the ends is the film's last place exactly if the film is parted -/
theorem reach_last {f g : W} {es : List Nat} (hn : es ≠ []) (hl : es.Pairwise (· < ·)) (hm : ∀ p, p ∈ es ↔ p < f.length ∧ PP f g (p + 1)) : (es.getLast hn + 1 = f.length) ↔ ∃ c, Pc f g c := by
  have h1 : es.getLast hn ∈ es := List.getLast_mem hn
  have h2 := (hm _).mp h1
  have ht : f.take f.length = f := List.take_of_length_le (Nat.le_refl _)
  constructor
  · intro e
    have := h2.2
    rw [e] at this
    unfold PP at this
    rw [ht] at this
    exact this
  · rintro ⟨c, h⟩
    have hp : f.length - 1 ∈ es := (hm _).mpr ⟨by omega, c, by
      have : f.length - 1 + 1 = f.length := by omega
      rw [this, ht]
      exact h⟩
    have : f.length - 1 ≤ es.getLast hn := by
      obtain ⟨es', x, e⟩ := (List.eq_nil_or_concat es).resolve_left hn
      rw [List.concat_eq_append] at e
      subst e
      have el : (es' ++ [x]).getLast hn = x := by simp
      rw [el]
      rcases List.mem_append.mp hp with q | q
      · exact Nat.le_of_lt ((List.pairwise_append.mp hl).2.2 _ q _ (by simp))
      · rw [List.mem_singleton] at q
        omega
    omega
end Rg
set_option Elab.async false
set_option linter.all false
set_option maxRecDepth 100000
set_option maxHeartbeats 4000000
namespace G
open PySem PySem.Spec PyProof.Rows L2
open Rg (W)
abbrev nBegin : List Str := ["film", "goal", "found", "starts", "letter", "good", "ends", "place"]
theorem scBegin : FnScope nBegin ["film", "goal"] (defScope sBegin) := ⟨rfl, rfl, rfl, by decide +kernel, rfl, by decide +kernel, by decide +kernel⟩
abbrev nIsReached : List Str := ["film", "goal", "told"]
theorem scIsReached : FnScope nIsReached ["film", "goal"] (defScope sIsReached) := ⟨rfl, rfl, rfl, by decide +kernel, rfl, by decide +kernel, by decide +kernel⟩
abbrev nV (q : Nat) : V := .int (q : Int)
structure BeginEnd (f g : W) (fs : List V) (H : Hp) : Prop where
  le : fs.length ≤ g.length
  no : fs.length ≠ g.length → ¬ Rg.PP f g f.length
  yes : fs.length = g.length → ∃ fs' T es, fs = fs' ++ [V.ref T] ∧ H T = some (.tup (es.map nV)) ∧ es ≠ [] ∧ es.Pairwise (· < ·) ∧ ∀ p, p ∈ es ↔ p < f.length ∧ Rg.PP f g (p + 1)
def spBegin : Sp := fun vs H Q _ => ∃ f g : W, vs = [txV f, txV g] ∧ f ≠ [] ∧ g ≠ [] ∧ f.length ≤ 8 ∧ g.length ≤ 8 ∧ ∀ (F : Addr) (fs : List V) (H' : Hp), Same H H' → H' F = some (.lst fs) → BeginEnd f g fs H' → Q (.ref F) H'
def spReached : Sp := fun vs H Q _ => ∃ f g : W, vs = [txV f, txV g] ∧ f ≠ [] ∧ g ≠ [] ∧ f.length ≤ 8 ∧ g.length ≤ 8 ∧ ∀ (b : Bool) (H' : Hp), Same H H' → (b = true ↔ ∃ c, Rg.Pc f g c) → Q (.bl b) H'
/-- behind i letters -/
structure BeginInv (f g : W) (F S : Addr) (i : Nat) (ss : List Nat) (fs : List V) (H H1 : Hp) : Prop where
  same : Same H H1
  hF : H1 F = some (.lst fs)
  len : fs.length = i
  hS : H1 S = some (.lst (ss.map nV))
  ok : Rg.StartsOk f (g.take i) ss
  last : i = 0 ∨ ∃ fs' T es, fs = fs' ++ [V.ref T] ∧ H1 T = some (.tup (es.map nV)) ∧ es ≠ [] ∧ es.Pairwise (· < ·) ∧ ∀ p, p ∈ es ↔ p < f.length ∧ Rg.PP f (g.take i) (p + 1)
section
variable {P : Program} {w : World} {K : PySem.W.Frag} {mg : Str → Option Value} {base : Heap} {f : Addr} {fd : FuncData}
theorem ok_begin (F : FnP K "begin" sBegin f fd) (T : Fr mg) : FnOk P w K mg base CX0 1 f fd ["film", "goal"] spBegin := by
  refine F.ok scBegin (fun vs H Q E h => ?_) (fun cdv A outer s H vs Q E hr h => ?_)
  · obtain ⟨f, g, rfl, _⟩ := h
    rfl
  · obtain ⟨f, g, rfl, hf, hg, h1, h2, k⟩ := h
    have hu := hu_of hr
    have nd := scBegin.nd
    refine ⟨_, PSs.nox (pss_cons (ps_par (i := 2) (j := 3) (by rfl) nd rfl rfl (by decide) rfl rfl (pa_cons (pe_lst pa_nil) (pa_cons (pe_lst (pa_cons pe_int pa_nil)) pa_nil)) (by rfl))
      (pss_cons (ps_for PassesOwn.never rfl (pi_str (pv 1)) (pg_name (i := 4) nd rfl (Or.inr rfl)) (pss_cons (ps_setLc (i := 5) (own := [("place", 7)]) (g := (gName 7)) (tt := _) rfl nd rfl rfl (sw_true rfl rfl rfl (by decide +kernel)) (pi_list (pv 3)) (blkOk_by (N := nBegin) (sc := defScope sBegin) (by decide +kernel)) (fun _ _ _ _ _ => pg_name (i := 7) nd rfl (Or.inl rfl)) (fun _ _ _ _ _ => pts_one (PW.pt (pw_and (pt_cmpR op_lt (pv 7) (pe_callB call_len_str (by rfl) T.len bt_len (pa_cons (pv 0) pa_nil)) (nomark _)) (pw_and1 (pt_cmpR op_eq (pe_ix ix_str (pv 0) (pv 7) (fun _ _ => rfl)) (pv 4) (nomark _)))))) (fun _ _ _ _ _ => (pv 7)))
      (pss_cons (ps_if (pt_cmpR (op_eqD hr.units) (pv 5) (pe_lst pa_nil) (nomark _)) (pss_one ps_break) pss_nil)
      (pss_cons (ps_set (i := 6) nd rfl (Or.inl rfl) (pe_callTy call_tuple_of (by rfl) T.tuple bt_tuple (pa_cons (pe_lc (own := [("place", 7)]) (g := (gName 7)) (tt := _) rfl nd (pi_range2 (by rfl) T.range (pa_cons (pe_ix ix_list (pv 5) pe_int (fun _ _ => rfl)) (pa_cons (pe_callB call_len_str (by rfl) T.len bt_len (pa_cons (pv 0) pa_nil)) pa_nil))) (blkOk_by (N := nBegin) (sc := defScope sBegin) (by decide +kernel)) (fun _ _ _ _ _ => pg_name (i := 7) nd rfl (Or.inl rfl)) (fun _ _ _ _ _ => pts_one (pt_cmpR op_eq (pe_ix ix_str (pv 0) (pv 7) (fun _ _ => rfl)) (pv 4) (nomark _))) (fun _ _ _ _ _ => (pv 7))) pa_nil)))
      (pss_cons (ps_expr (pe_bm PySem.F.plainAttrs_list PySem.F.slot_list_append PySem.F.type_list_append mt_append (pv 2) (pa_cons (pv 6) pa_nil)))
      (pss_one (ps_setLc (i := 3) (own := [("place", 7)]) (g := (gName 7)) (tt := tYes) rfl nd rfl rfl (sw_true rfl rfl rfl (by decide +kernel)) (pi_tup (pv 6)) (blkOk_by (N := nBegin) (sc := defScope sBegin) (by decide +kernel)) (fun _ _ _ _ _ => pg_name (i := 7) nd rfl (Or.inl rfl)) (fun _ _ _ _ _ => pts_nil) (fun _ _ _ _ _ => (pe_op op_add (pv 7) pe_int)))))))))
      (pss_one (ps_ret (pv 2))))), ?_⟩
    have hl : (tx f).length ≤ sizeLine := txl (by omega)
    refine ⟨by show 0 ≤ sizeLine; decide, fun F hF => ⟨by show 1 ≤ sizeLine; decide, fun S hS => ⟨_, _, rfl, ?_⟩⟩⟩
    have nSF : S ≠ F := fun e => by rw [e, upd_same] at hS; cases hS
    refine ⟨_, rfl, _, rfl, for_it walk_tx (fun i σ H1 => ∃ a b c S ss fs, σ = [some (txV f), some (txV g), some (.ref F), some (.ref S), a, b, c, none] ∧ BeginInv f g F S i ss fs H H1) ⟨none, none, none, S, [0], [], rfl, ?_⟩ (fun _ _ _ _ _ => trivial) ?_ ?_⟩
    · refine ⟨same_new (same_upd hF) (by rw [upd_ne nSF] at hS; exact hS), ?_, rfl, upd_same, by simpa using Rg.starts_zero hf, .inl rfl⟩
      rw [upd_ne (Ne.symm nSF), upd_same]
    · rintro i x σ H1 H2 hi ⟨a, b, c0, S, ss, fs, rfl, I⟩ ⟨rfl, c, hc, rfl⟩
      -- good
      refine ⟨_, rfl, S, rfl, ⟨_, .of I.hS⟩, fun D1 hD1 => ?_⟩
      refine lc_it walk_list (PvL D1 H2 (filT (fun q => decide (q < f.length) && decide (f[q]? = some c)) nV ss)) (PvL.start hD1 rfl) (fun _ _ _ p => p.same.seq (.of I.hS)) ?_ ?_
      · rintro j x H3 H4 hj p ⟨rfl, hx⟩
        obtain ⟨q, hq, rfl⟩ := at_map hx
        refine ⟨rfl, _, rfl, _, rfl, _, rfl, hl, _, _, rfl, rfl, _, rfl, iteB (fun e => ?_) fun e => ?_⟩
        · have e := of_decide_eq_true e
          rw [tx_len] at e
          have eq : q < f.length := by omega
          refine ⟨_, rfl, _, rfl, _, _, _, rfl, rfl, hl, atN rfl (List.getElem?_eq_getElem eq), _, rfl, rfl, _, rfl, iteB (fun e2 => ?_) fun e2 => ?_⟩
          · have e2 := of_decide_eq_true (sign_eqV _ _ ▸ e2)
            have ep : (decide (q < f.length) && decide (f[q]? = some c)) = true := by simp [eq, e2]
            exact ⟨_, rfl, _, p.at_, lt_line (Nat.le_trans (filT_len _ _ _ _) (by have := I.ok.len; omega)), PvL.push hD1 p.same (filT_yes hq ep)⟩
          · have e2 := of_decide_eq_false (sign_eqV _ _ ▸ e2)
            exact p.skip (filT_no hq (by simp [eq]; exact e2))
        · have e := of_decide_eq_false e
          rw [tx_len] at e
          refine iteF (p.skip (filT_no hq ?_))
          have : ¬ q < f.length := by omega
          simp [this]
      · intro H3 p
        have hG : H3 D1 = some (.lst ((Rg.goodOf f c ss).map nV)) := by rw [p.at_, List.length_map, filT_all]; rfl
        have hS3 := p.same _ _ I.hS
        have hF3 := p.same _ _ I.hF
        refine ⟨_, rfl, by show 0 ≤ sizeLine; decide, fun Z hZ => eqNil (.of (upd_new hG hZ)) (.of upd_same) (fun v hv => ?_) ⟨_, rfl, iteB (fun e => ?_) fun e => ?_⟩⟩
        · obtain ⟨q, _, rfl⟩ := List.mem_map.mp hv
          exact ok3_int _
        · -- break
          have eg : Rg.goodOf f c ss = [] := by simpa using e
          have sm : Same H (upd H3 Z (.lst [])) := same_new (I.same.trans p.same) ((I.same.trans p.same).free hZ)
          refine ⟨_, rfl, k F fs _ sm (upd_new hF3 hZ) ⟨by rw [I.len]; omega, fun _ => ?_, fun e => ?_⟩⟩
          · have := Rg.begin_stop (rest := g.drop (i + 1)) I.ok eg
            have eg2 : g.take i ++ c :: g.drop (i + 1) = g := by
              have e5 : c = g[i] := by
                rw [List.getElem?_eq_getElem hi] at hc
                exact (Option.some.inj hc).symm
              rw [e5, ← List.drop_eq_getElem_cons hi, List.take_append_drop]
            rw [eg2] at this
            exact this
          · exact absurd (I.len.symm.trans e) (by omega)
        · obtain ⟨q0, r, eg⟩ : ∃ q0 r, Rg.goodOf f c ss = q0 :: r := by
            cases hgd : Rg.goodOf f c ss with
            | nil => rw [hgd] at e; simp at e
            | cons q0 r => exact ⟨q0, r, rfl⟩
          obtain ⟨hq0, hne⟩ := Rg.begin_ne I.ok eg
          have hG4 := upd_new (o := .lst []) hG hZ
          have hF4 := upd_new (o := .lst []) hF3 hZ
          have sm : Same H (upd H3 Z (.lst [])) := same_new (I.same.trans p.same) ((I.same.trans p.same).free hZ)
          generalize upd H3 Z (.lst []) = H4 at hG4 hF4 sm
          refine ⟨_, rfl, D1, _, 0, nV q0, rfl, rfl, .of hG4, ?_, _, rfl, _, rfl, hl, _, _, rfl, ?_, fun D2 hD2 => ?_⟩
          · rw [eg]
            exact atI_nat (j := 0) rfl
          · rw [tx_len]; omega
          refine lc_it walk_range (PvL D2 H4 (filL (fun j => decide (f[q0 + j]? = some c)) (fun j => nV (q0 + j)))) (PvL.start hD2 rfl) (fun _ _ _ _ => trivial) ?_ ?_
          · rintro j x H5 H6 hj p5 ⟨rfl, ex⟩
            have ex := int_eq ex (show (q0 : Int) + (j : Int) = ((q0 + j : Nat) : Int) by omega)
            subst ex
            rw [tx_len] at hj
            have hj2 : q0 + j < f.length := by omega
            refine ⟨rfl, _, rfl, _, rfl, _, _, _, rfl, rfl, hl, atN rfl (List.getElem?_eq_getElem hj2), _, rfl, rfl, _, rfl, iteB (fun e2 => ?_) fun e2 => ?_⟩
            · have e2 := of_decide_eq_true (sign_eqV _ _ ▸ e2)
              exact ⟨_, rfl, _, p5.at_, lt_line (Nat.le_trans (filL_len _ _ _) (by omega)), PvL.push hD2 p5.same (filL_yes (by simp [hj2, e2]))⟩
            · have e2 := of_decide_eq_false (sign_eqV _ _ ▸ e2)
              exact p5.skip (filL_no (by simp [hj2]; exact e2))
          · intro H5 p5
            have hE : H5 D2 = some (.lst ((Rg.endsOf f c q0).map nV)) := by
              rw [p5.at_, tx_len]
              have : (((f.length : Nat) : Int) - (q0 : Int)).toNat = f.length - q0 := by omega
              rw [this]
              simp [filL, Rg.endsOf, List.map_map, Function.comp_def]
            refine ⟨D2, _, rfl, .inl ⟨.of hE, fun T hT => ?_⟩⟩
            have hF6 := upd_new (o := .tup ((Rg.endsOf f c q0).map nV)) (p5.same _ _ hF4) hT
            have hT6 : (upd H5 T (.tup ((Rg.endsOf f c q0).map nV))) T = some (.tup ((Rg.endsOf f c q0).map nV)) := upd_same
            have sm6 : Same H (upd H5 T (.tup ((Rg.endsOf f c q0).map nV))) := same_new (sm.trans p5.same) ((sm.trans p5.same).free hT)
            generalize upd H5 T (.tup ((Rg.endsOf f c q0).map nV)) = H6 at hF6 hT6 sm6
            -- found.append(ends)
            refine ⟨_, rfl, .inl ⟨rfl, _, .of hF6⟩, _, rfl, F, fs, .ref T, rfl, rfl, hF6, lt_line (by rw [I.len]; omega), ?_⟩
            have nTF : T ≠ F := ne_of hT6 hF6 (by intro z; cases z)
            have hT7 : (upd H6 F (.lst (fs ++ [.ref T]))) T = some (.tup ((Rg.endsOf f c q0).map nV)) := by rw [upd_ne nTF]; exact hT6
            have hF7 : (upd H6 F (.lst (fs ++ [.ref T]))) F = some (.lst (fs ++ [.ref T])) := upd_same
            have nHF : H F = none := hF
            have sm7 : Same H (upd H6 F (.lst (fs ++ [.ref T]))) := same_new sm6 nHF
            generalize upd H6 F (.lst (fs ++ [.ref T])) = H7 at hT7 hF7 sm7
            refine ⟨_, rfl, T, rfl, ⟨_, .of hT7⟩, fun D3 hD3 => ?_⟩
            refine lc_it walk_tup (PvL D3 H7 (filT (fun _ => true) (fun q => nV (q + 1)) (Rg.endsOf f c q0))) (PvL.start hD3 rfl) (fun _ _ _ p => .of (p.same _ _ hT7)) ?_ ?_
            · rintro j x H8 H9 hj p8 ⟨rfl, hx⟩
              obtain ⟨q, hq, rfl⟩ := at_map hx
              refine ⟨rfl, tyes ?_⟩
              have hlen : (Rg.endsOf f c q0).length ≤ 1000 := by
                unfold Rg.endsOf
                rw [List.length_map]
                exact Nat.le_trans (List.length_filter_le _ _) (by simp; omega)
              exact ⟨_, rfl, _, _, rfl, rfl, _, p8.at_, lt_line (Nat.le_trans (filT_len _ _ _ _) hlen), PvL.push hD3 p8.same (filT_yes hq rfl)⟩
            · intro H8 p8
              refine ⟨_, _, _, D3, (Rg.endsOf f c q0).map (· + 1), fs ++ [.ref T], rfl, ?_⟩
              have e5 : g.take (i + 1) = g.take i ++ [c] := take_succ hc
              refine ⟨sm7.trans p8.same, p8.same _ _ hF7, by simp [I.len], ?_, ?_, .inr ⟨fs, T, Rg.endsOf f c q0, rfl, p8.same _ _ hT7, hne, Rg.ends_lt _ _ _, ?_⟩⟩
              · rw [p8.at_, List.length_map, filT_all, List.filter_eq_self.mpr (fun _ _ => rfl)]
                simp [List.map_map, Function.comp_def]
              · rw [e5]
                exact Rg.begin_step I.ok eg
              · rw [e5]
                exact Rg.begin_mem I.ok eg
    · rintro σ H1 ⟨a, b, c0, S, ss, fs, rfl, I⟩
      refine ⟨_, rfl, k F fs H1 I.same I.hF ⟨by rw [I.len]; omega, fun e => absurd I.len e, fun _ => ?_⟩⟩
      rcases I.last with e | e
      · exact absurd (List.length_eq_zero_iff.mp e) hg
      · rw [List.take_length] at e
        exact e
theorem ok_is_reached (F : FnP K "is_reached" sIsReached f fd) (T : Fr mg) (Dbegin : Df P w K mg base "begin" ["film", "goal"] 1 spBegin) : FnOk P w K mg base CX0 2 f fd ["film", "goal"] spReached := by
  refine F.ok scIsReached (fun vs H Q E h => ?_) (fun cdv A outer s H vs Q E hr h => ?_)
  · obtain ⟨f, g, rfl, _⟩ := h
    rfl
  · obtain ⟨f, g, rfl, hf, hg, h1, h2, k⟩ := h
    have hu := hu_of hr
    have nd := scIsReached.nd
    refine ⟨_, PSs.nox (pss_cons (ps_set (i := 2) nd rfl (Or.inl rfl) (Dbegin.call (hr.mono (by decide)) (by rfl) (pa_cons (pv 0) (pa_cons (pv 1) pa_nil))))
      (pss_one (ps_ret (pe_and (pe_cmpR op_eq (pe_callB call_len_seq (by rfl) T.len bt_len (pa_cons (pv 2) pa_nil)) (pe_callB call_len_str (by rfl) T.len bt_len (pa_cons (pv 1) pa_nil)) (nomark _)) (pe_one (pe_cmpR op_eq (pe_ix ix_tup (pe_ix ix_list (pv 2) (pe_un un_neg pe_int) (fun _ _ => rfl)) (pe_un un_neg pe_int) (fun _ _ => rfl)) (pe_op op_sub (pe_callB call_len_str (by rfl) T.len bt_len (pa_cons (pv 0) pa_nil)) pe_int) (nomark _))))))), ?_⟩
    have hl : (tx f).length ≤ sizeLine := txl (by omega)
    have hl2 : (tx g).length ≤ sizeLine := txl (by omega)
    have hft : f.take f.length = f := List.take_length
    refine ⟨_, rfl, _, rfl, f, g, rfl, hf, hg, h1, h2, fun F fs H1 s1 hF B => ?_⟩
    refine ⟨_, rfl, F, _, rfl, .inl (.of hF), _, rfl, _, rfl, hl2, rfl, _, rfl, iteB (fun e => ?_) fun e => ?_⟩
    · have e := V.int.inj (of_decide_eq_true e)
      rw [tx_len] at e
      obtain ⟨fs', T, es, rfl, hT, hne, hlt, hm⟩ := B.yes (by omega)
      obtain ⟨es', x, ex⟩ := (List.eq_nil_or_concat es).resolve_left hne
      rw [List.concat_eq_append] at ex
      refine ⟨_, rfl, _, rfl, F, _, -1, .ref T, rfl, rfl, .of hF, atI_last _ _, _, rfl, T, _, -1, nV x, rfl, rfl, .of hT, ?_, _, rfl, _, rfl, hl, _, _, rfl, rfl, rfl, ?_⟩
      · rw [ex, List.map_append]
        exact atI_last _ _
      · refine k _ H1 s1 ?_
        rw [← Rg.reach_last hne hlt hm]
        have hx : es.getLast hne = x := by subst ex; simp
        rw [hx, tx_len]
        constructor
        · intro e2
          have e2 := V.int.inj (of_decide_eq_true e2)
          omega
        · intro e2
          have : ((x : Nat) : Int) = (f.length : Int) - 1 := by omega
          exact decide_eq_true (congrArg V.int this)
    · have e := of_decide_eq_false e
      have e2 : fs.length ≠ g.length := fun q => e (by rw [tx_len, q])
      refine k _ H1 s1 ⟨fun z => (by cases z), fun z => ?_⟩
      have := B.no e2
      unfold Rg.PP at this
      rw [hft] at this
      exact absurd z this
end
end G
set_option Elab.async false
set_option linter.all false
set_option maxRecDepth 100000
set_option maxHeartbeats 4000000
namespace G
open PySem PySem.Spec PyProof.Rows L2
open Rg (W)
abbrev nIsLastRing : List Str := ["film"]
theorem scIsLastRing : FnScope nIsLastRing ["film"] (defScope sIsLastRing) := ⟨rfl, rfl, rfl, by decide +kernel, rfl, by decide +kernel, by decide +kernel⟩
abbrev nRingPeriod : List Str := ["film", "turn"]
theorem scRingPeriod : FnScope nRingPeriod ["film"] (defScope sRingPeriod) := ⟨rfl, rfl, rfl, by decide +kernel, rfl, by decide +kernel, by decide +kernel⟩
abbrev nRingComes : List Str := ["film", "goal", "place"]
theorem scRingComes : FnScope nRingComes ["film", "goal"] (defScope sRingComes) := ⟨rfl, rfl, rfl, by decide +kernel, rfl, by decide +kernel, by decide +kernel⟩
def spLast : Sp := fun vs H Q _ => ∃ f : W, vs = [txV f] ∧ Film f ∧ ∀ (b : Bool) (H' : Hp), Same H H' → (b = true ↔ Rg.rn f = []) → Q (.bl b) H'
def spPeriod : Sp := fun vs H Q _ => ∃ f : W, vs = [txV f] ∧ Film f ∧ ∀ H', Same H H' → Q (.int (Rg.per f)) H'
def spComes : Sp := fun vs H Q _ => ∃ f g : W, vs = [txV f, txV g] ∧ Film f ∧ Film g ∧ ∀ (b : Bool) (H' : Hp), Same H H' → (b = true ↔ ∃ i c, i < f.length ∧ Rg.Pc (Rg.rot f i) g c) → Q (.bl b) H'
/-- the distinct signs of a film -/
theorem metS_mem (val : Nat → Str) (x : Str) : ∀ i, (metS val i).any (· == x) = true ↔ ∃ a, a < i ∧ val a = x
  | 0 => by simp [metS]
  | i + 1 => by
    unfold metS
    rw [putOnce_any, Bool.or_eq_true, metS_mem val x i]
    constructor
    · rintro (⟨a, h1, h2⟩ | h)
      · exact ⟨a, by omega, h2⟩
      · exact ⟨i, by omega, (of_decide_eq_true h).symm⟩
    · rintro ⟨a, h1, h2⟩
      by_cases e : a = i
      · subst e
        exact .inr (decide_eq_true h2.symm)
      · exact .inl ⟨a, by omega, h2⟩
theorem metS_full (val : Nat → Str) : ∀ i, (metS val i).length = i ↔ ∀ a b, a < b → b < i → val a ≠ val b
  | 0 => by simp [metS]
  | i + 1 => by
    have ih := metS_full val i
    have hl := metS_len val i
    unfold metS
    rw [putOnce_length]
    constructor
    · intro h a b hab hb
      split at h
      · omega
      · rename_i hn
        by_cases e : b = i
        · subst e
          intro q
          exact hn ((metS_mem val _ _).mpr ⟨a, hab, q⟩)
        · exact ih.mp (by omega) a b hab (by omega)
    · intro h
      have h1 := ih.mpr fun a b hab hb => h a b hab (by omega)
      rw [if_neg, h1]
      intro q
      obtain ⟨a, ha, e⟩ := (metS_mem val _ _).mp q
      exact h a i ha (by omega) e
theorem last_len {f : W} (hf : f ≠ []) : (metS (signOf (tx f)) (tx f).cps.size).length = (tx f).cps.size ↔ Rg.rn f = [] := by
  rw [metS_full, Rg.rn_nil hf, tx_size]
  unfold List.Nodup
  rw [List.pairwise_iff_getElem]
  have sg : ∀ a, (h : a < f.length) → signOf (tx f) a = tx [f[a]] := fun a h => by
    unfold signOf
    rw [Array.getD_eq_getD_getElem?, tx_at, List.getElem?_eq_getElem h]
    rfl
  constructor
  · intro h i j hi hj hij e
    refine h i j hij hj ?_
    rw [sg i hi, sg j hj, e]
  · intro h a b hab hb e
    rw [sg a (by omega), sg b hb] at e
    have := tx_inj e
    exact h a b (by omega) hb hab (by simpa using this)
section
variable {P : Program} {w : World} {K : PySem.W.Frag} {mg : Str → Option Value} {base : Heap} {f : Addr} {fd : FuncData}
theorem ok_is_last_ring (F : FnP K "is_last_ring" sIsLastRing f fd) (T : Fr mg) (Dneed_film : Df P w K mg base "need_film" ["value"] 1 spNeedFilm) : FnOk P w K mg base CX0 2 f fd ["film"] spLast := by
  refine F.ok scIsLastRing (fun vs H Q E h => ?_) (fun cdv A outer s H vs Q E hr h => ?_)
  · obtain ⟨f, rfl, _⟩ := h
    rfl
  · obtain ⟨f, rfl, hf, k⟩ := h
    have hu := hu_of hr
    have nd := scIsLastRing.nd
    refine ⟨_, PSs.nox (pss_cons (ps_expr (Dneed_film.call (hr.mono (by decide)) (by rfl) (pa_cons (pv 0) pa_nil)))
      (pss_one (ps_ret (pe_cmpR op_eq (pe_lenSetX rfl (by rfl) T.len (by rfl) T.set (pv 0)) (pe_callB call_len_str (by rfl) T.len bt_len (pa_cons (pv 0) pa_nil)) (nomark _))))), ?_⟩
    have hl : (tx f).length ≤ sizeLine := txl (by have := hf.len; omega)
    refine ⟨_, rfl, f, rfl, hf, fun H1 s1 => ⟨_, rfl, _, rfl, ?_, _, rfl, _, rfl, hl, rfl, ?_⟩⟩
    · rw [tx_size]; have := hf.len; omega
    · refine k _ H1 s1 ?_
      rw [← last_len hf.ne]
      constructor
      · intro e
        have e := V.int.inj (of_decide_eq_true e)
        have : (tx f).length = (tx f).cps.size := rfl
        omega
      · intro e
        refine decide_eq_true (congrArg V.int ?_)
        have : (tx f).length = (tx f).cps.size := rfl
        omega
theorem per_head (f : W) (hf : f ≠ []) : (filL (fun i => decide (Rg.rot f (i + 1) = f)) (fun i => V.int ((i + 1 : Nat) : Int)) f.length)[0]? = some (.int (Rg.per f)) := by
  have h := Rg.per_ne hf
  unfold filL Rg.per
  cases e : (List.range f.length).filter fun i => decide (Rg.rot f (i + 1) = f) with
  | nil => exact absurd e h
  | cons x r => simp
theorem ok_ring_period (F : FnP K "ring_period" sRingPeriod f fd) (T : Fr mg) (Dneed_film : Df P w K mg base "need_film" ["value"] 1 spNeedFilm) (Dturned : Df P w K mg base "turned" ["film", "place"] 1 spTurned) : FnOk P w K mg base CX0 2 f fd ["film"] spPeriod := by
  refine F.ok scRingPeriod (fun vs H Q E h => ?_) (fun cdv A outer s H vs Q E hr h => ?_)
  · obtain ⟨f, rfl, _⟩ := h
    rfl
  · obtain ⟨f, rfl, hf, k⟩ := h
    have hu := hu_of hr
    have nd := scRingPeriod.nd
    refine ⟨_, PSs.nox (pss_cons (ps_expr (Dneed_film.call (hr.mono (by decide)) (by rfl) (pa_cons (pv 0) pa_nil)))
      (pss_one (ps_ret (pe_ix ix_list (pe_lc (own := [("turn", 1)]) (g := (gName 1)) (tt := _) rfl nd (pi_range2 (by rfl) T.range (pa_cons pe_int (pa_cons (pe_op op_add (pe_callB call_len_str (by rfl) T.len bt_len (pa_cons (pv 0) pa_nil)) pe_int) pa_nil))) (blkOk_by (N := nRingPeriod) (sc := defScope sRingPeriod) (by decide +kernel)) (fun _ _ _ _ _ => pg_name (i := 1) nd rfl (Or.inl rfl)) (fun _ _ _ _ _ => pts_one (pt_cmpR op_eq (Dturned.call (hr.mono (by decide)) (by rfl) (pa_cons (pv 0) (pa_cons (pv 1) pa_nil))) (pv 0) (nomark _))) (fun _ _ _ _ _ => (pv 1))) pe_int (fun _ _ => rfl))))), ?_⟩
    have hl : (tx f).length ≤ sizeLine := txl (by have := hf.len; omega)
    have h8 := hf.len
    refine ⟨_, rfl, f, rfl, hf, fun H1 s1 => ⟨_, rfl, _, rfl, hl, _, _, rfl, rfl, _, _, rfl, ?_, fun D hD => ?_⟩⟩
    · rw [tx_len]; omega
    have en : (((tx f).length : Int) + 1 - 1).toNat = f.length := by rw [tx_len]; omega
    rw [en]
    refine lc_it walk_range (PvL D H1 (filL (fun i => decide (Rg.rot f (i + 1) = f)) (fun i => V.int ((i + 1 : Nat) : Int)))) (PvL.start hD rfl) (fun _ _ _ _ => trivial) ?_ ?_
    · rintro i x H2 H3 hi p ⟨rfl, ex⟩
      have ex := int_eq ex (show (1 : Int) + (i : Int) = ((i + 1 : Nat) : Int) by omega)
      subst ex
      refine ⟨rfl, _, rfl, _, rfl, f, i + 1, rfl, by omega, _, rfl, rfl, _, rfl, iteB (fun e => ?_) fun e => ?_⟩
      · rw [tx_eqV] at e
        exact ⟨_, rfl, _, p.at_, lt_line (Nat.le_trans (filL_len _ _ _) (by omega)), PvL.push hD p.same (filL_yes e)⟩
      · rw [tx_eqV] at e
        exact p.skip (filL_no e)
    · intro H2 p
      exact ⟨D, _, 0, _, rfl, rfl, .of p.at_, atI_nat (j := 0) (per_head f hf.ne), k H2 (s1.trans p.same)⟩
theorem ok_ring_comes (F : FnP K "ring_comes" sRingComes f fd) (T : Fr mg) (Dneed_film : Df P w K mg base "need_film" ["value"] 1 spNeedFilm) (Dneed_short : Df P w K mg base "need_short" ["film", "most"] 1 spNeedShort)
    (Dturned : Df P w K mg base "turned" ["film", "place"] 1 spTurned) (Dis_reached : Df P w K mg base "is_reached" ["film", "goal"] 2 spReached) : FnOk P w K mg base CX0 3 f fd ["film", "goal"] spComes := by
  refine F.ok scRingComes (fun vs H Q E h => ?_) (fun cdv A outer s H vs Q E hr h => ?_)
  · obtain ⟨f, g, rfl, _⟩ := h
    rfl
  · obtain ⟨f, g, rfl, hf, hg, k⟩ := h
    have hu := hu_of hr
    have nd := scRingComes.nd
    refine ⟨_, PSs.nox (pss_cons (ps_expr (Dneed_film.call (hr.mono (by decide)) (by rfl) (pa_cons (pv 0) pa_nil)))
      (pss_cons (ps_expr (Dneed_film.call (hr.mono (by decide)) (by rfl) (pa_cons (pv 1) pa_nil)))
      (pss_cons (ps_expr (Dneed_short.call (hr.mono (by decide)) (by rfl) (pa_cons (pv 0) (pa_cons (pe_globE rfl T.cMOST_RING) pa_nil))))
      (pss_one (ps_ret (pe_callB (cr_any rfl) (by rfl) T.any bt_any (pa_cons (pe_lc (own := [("place", 2)]) (g := (gName 2)) (tt := tYes) rfl nd (pi_range1 (by rfl) T.range (pa_cons (pe_callB call_len_str (by rfl) T.len bt_len (pa_cons (pv 0) pa_nil)) pa_nil)) (blkOk_by (N := nRingComes) (sc := defScope sRingComes) (by decide +kernel)) (fun _ _ _ _ _ => pg_name (i := 2) nd rfl (Or.inl rfl)) (fun _ _ _ _ _ => pts_nil) (fun _ _ _ _ _ => (Dis_reached.call (hr.mono (by decide)) (by rfl) (pa_cons (Dturned.call (hr.mono (by decide)) (by rfl) (pa_cons (pv 0) (pa_cons (pv 2) pa_nil))) (pa_cons (pv 1) pa_nil))))) pa_nil))))))), ?_⟩
    have hl : (tx f).length ≤ sizeLine := txl (by have := hf.len; omega)
    have h8 := hf.len
    have g8 := hg.len
    refine ⟨_, rfl, f, rfl, hf, fun H1 s1 => ⟨_, rfl, g, rfl, hg, fun H2 s2 => ⟨_, rfl, f, 60, rfl, by omega, h8, ?_⟩⟩⟩
    refine ⟨_, rfl, _, rfl, hl, _, rfl, ?_, ?_, fun D hD => ?_⟩
    · rw [tx_len]; omega
    · rw [tx_len]; omega
    rw [tx_len, Int.toNat_natCast]
    -- the answers so far
    refine lc_it walk_range (fun i H3 => ∃ bs : List Bool, bs.length = i ∧ H3 D = some (.lst (bs.map V.bl)) ∧ Same H2 H3 ∧ (bs.any id = true ↔ ∃ j c, j < i ∧ Rg.Pc (Rg.rot f j) g c)) ⟨[], rfl, upd_same, same_upd hD, by simp⟩ (fun _ _ _ _ => trivial) ?_ ?_
    · rintro i x H3 H4 hi ⟨bs, e1, e2, e3, e4⟩ ⟨rfl, ex⟩
      have ex := int_eq ex (show (0 : Int) + (i : Int) = (i : Int) by omega)
      subst ex
      refine ⟨rfl, tyes ?_⟩
      refine ⟨_, rfl, _, rfl, f, i, rfl, by omega, _, rfl, Rg.rot f i, g, rfl, (Rg.Sim.rot f i).ne hf.ne, hg.ne, by rw [Rg.rot_len]; exact h8, g8, fun b H5 s5 hb => ?_⟩
      refine ⟨_, s5 _ _ e2, lt_line (by rw [List.length_map, e1]; omega), bs ++ [b], by simp [e1], by rw [upd_same]; simp, same_new (e3.trans s5) hD, ?_⟩
      rw [List.any_append, Bool.or_eq_true, e4]
      constructor
      · rintro (⟨j, c, h1, h2⟩ | h)
        · exact ⟨j, c, by omega, h2⟩
        · obtain ⟨c, hc⟩ := hb.mp (by simpa using h)
          exact ⟨i, c, by omega, hc⟩
      · rintro ⟨j, c, h1, h2⟩
        by_cases e : j = i
        · subst e
          exact .inr (by simpa using hb.mpr ⟨c, h2⟩)
        · exact .inl ⟨j, c, by omega, h2⟩
    · rintro H3 ⟨bs, e1, e2, e3, e4⟩
      exact ⟨D, bs, rfl, .of e2, k _ H3 (s1.trans (s2.trans e3)) e4⟩
end
end G
set_option linter.all false
/-! The plain law, part 5: the fewest long blocks, place by place. -/
namespace Rg
def IsMin (P : Nat → Prop) (o : Option Nat) : Prop := match o with
  | none => ∀ c, ¬ P c
  | some m => P m ∧ ∀ c, P c → m ≤ c
theorem IsMin.congr {P Q : Nat → Prop} {o : Option Nat} (h : ∀ c, P c ↔ Q c) (m : IsMin P o) : IsMin Q o := by
  cases o with
  | none => exact fun c q => m c ((h c).mpr q)
  | some x => exact ⟨(h x).mp m.1, fun c q => m.2 c ((h c).mpr q)⟩
theorem IsMin.uniq {P : Nat → Prop} {o p : Option Nat} (a : IsMin P o) (b : IsMin P p) : o = p := by
  cases o with
  | none =>
    cases p with
    | none => rfl
    | some x => exact absurd b.1 (a x)
  | some y =>
    cases p with
    | none => exact absurd a.1 (b y)
    | some x => rw [Nat.le_antisymm (a.2 x b.1) (b.2 y a.1)]
def optMin : Option Nat → Option Nat → Option Nat
  | none, s => s
  | some a, none => some a
  | some a, some b => some (min a b)
theorem IsMin.or {P Q : Nat → Prop} {r s : Option Nat} (a : IsMin P r) (b : IsMin Q s) : IsMin (fun c => P c ∨ Q c) (optMin r s) := by
  cases r with
  | none =>
    refine IsMin.congr (fun c => ?_) b
    exact ⟨.inr, fun h => h.resolve_left (a c)⟩
  | some x =>
    cases s with
    | none =>
      refine IsMin.congr (fun c => ?_) (o := some x) a
      exact ⟨.inl, fun h => h.resolve_right (b c)⟩
    | some y =>
      refine ⟨?_, fun c h => ?_⟩
      · by_cases e : x ≤ y
        · exact .inl (by rw [Nat.min_eq_left e]; exact a.1)
        · exact .inr (by rw [Nat.min_eq_right (by omega)]; exact b.1)
      · rcases h with h | h
        · have := a.2 c h; omega
        · have := b.2 c h; omega
theorem IsMin.add1 {P : Nat → Prop} {o : Option Nat} (a : IsMin P o) : IsMin (fun c => ∃ c', P c' ∧ c = c' + 1) (o.map (· + 1)) := by
  cases o with
  | none =>
    rintro c ⟨c', h, _⟩
    exact a c' h
  | some x =>
    refine ⟨⟨x, a.1, rfl⟩, ?_⟩
    rintro c ⟨c', h, rfl⟩
    have := a.2 c' h
    show x + 1 ≤ c' + 1
    omega
/-- the fewest for all beginnings of a film -/
def BestOk (f pre : W) (o : Nat → Option Nat) : Prop := ∀ q, q ≤ f.length → IsMin (fun c => Pc (f.take q) pre c) (o q)
/-- what running tells behind i places -/
def RunP (f pre : W) (a i : Nat) (c : Nat) : Prop := ∃ s, s < i ∧ f[s]? = some a ∧ ∃ c', Pc (f.take s) pre c' ∧ c = c' + 1
theorem best_zero {f : W} (hf : f ≠ []) : BestOk f [] (fun q => if q = 0 then some 0 else none) := by
  intro q hq
  show IsMin _ (if q = 0 then some 0 else none)
  by_cases e : q = 0
  · subst e
    rw [if_pos rfl]
    exact ⟨by simpa using Pc.nil, fun c _ => by omega⟩
  · rw [if_neg e]
    intro c h
    exact e ((pp_nil hf).mp ⟨c, h⟩)
theorem run_zero (f pre : W) (a : Nat) : IsMin (RunP f pre a 0) none := by
  rintro c ⟨s, h, _⟩
  omega
theorem later_zero (f pre : W) (a : Nat) : IsMin (fun c => Pc (f.take 0) (pre ++ [a]) c) none := fun c h => pp_snoc_zero ⟨c, h⟩
theorem step_no {f pre : W} {a i : Nat} (hi : i < f.length) (h : f[i]? ≠ some a) {r : Option Nat} (hr : IsMin (RunP f pre a i) r) :
    IsMin (fun c => Pc (f.take (i + 1)) (pre ++ [a]) c) none ∧ IsMin (RunP f pre a (i + 1)) r := by
  refine ⟨fun c q => ?_, IsMin.congr (fun c => ?_) hr⟩
  · obtain ⟨_, _, _, _, _, h4, _⟩ := (pc_last hi).mp q
    exact h h4
  · constructor
    · rintro ⟨s, h1, h2⟩
      exact ⟨s, by omega, h2⟩
    · rintro ⟨s, h1, h2, h3⟩
      have : s ≠ i := fun e => h (e ▸ h2)
      exact ⟨s, by omega, h2, h3⟩
theorem step_yes {f pre : W} {a i : Nat} (hi : i < f.length) (h : f[i]? = some a) {r s : Option Nat} (hr : IsMin (RunP f pre a i) r) (hs : IsMin (fun c => Pc (f.take i) pre c) s) :
    IsMin (fun c => Pc (f.take (i + 1)) (pre ++ [a]) c) (optMin r s) ∧ IsMin (RunP f pre a (i + 1)) (optMin r (s.map (· + 1))) := by
  refine ⟨IsMin.congr (fun c => ?_) (hr.or hs), IsMin.congr (fun c => ?_) (hr.or hs.add1)⟩
  · rw [pc_last hi]
    constructor
    · rintro (⟨q, h1, h2, c', h3, h4⟩ | h1)
      · exact ⟨q, c', by omega, h3, h2, h, by rw [if_pos h1]; exact h4⟩
      · exact ⟨i, c, Nat.le_refl _, h1, h, h, by simp⟩
    · rintro ⟨q, c', h1, h2, h3, h4, h5⟩
      by_cases e : q < i
      · rw [if_pos e] at h5
        exact .inl ⟨q, e, h3, c', h2, h5⟩
      · rw [if_neg e] at h5
        have : q = i := by omega
        subst this
        rw [h5]
        exact .inr h2
  · constructor
    · rintro (⟨q, h1, h2, h3⟩ | ⟨c', h1, h2⟩)
      · exact ⟨q, by omega, h2, h3⟩
      · exact ⟨i, by omega, h, c', h1, h2⟩
    · rintro ⟨q, h1, h2, c', h3, h4⟩
      by_cases e : q < i
      · exact .inl ⟨q, e, h2, c', h3, h4⟩
      · have : q = i := by omega
        subst this
        exact .inr ⟨c', h3, h4⟩
end Rg
set_option Elab.async false
set_option linter.all false
set_option maxRecDepth 100000
set_option maxHeartbeats 4000000
namespace G
open PySem PySem.Spec PyProof.Rows L2
open Rg (W)
abbrev nFewestOf : List Str := ["film", "goal", "best", "letter", "place", "later", "running", "same", "told", "one"]
theorem scFewestOf : FnScope nFewestOf ["film", "goal"] (defScope sFewestOf) := ⟨rfl, rfl, rfl, by decide +kernel, rfl, by decide +kernel, by decide +kernel⟩
abbrev nRingFewest : List Str := ["film", "goal", "told", "place", "some", "one"]
theorem scRingFewest : FnScope nRingFewest ["film", "goal"] (defScope sRingFewest) := ⟨rfl, rfl, rfl, by decide +kernel, rfl, by decide +kernel, by decide +kernel⟩
/-- a number or None -/
def oV : Option Nat → V
  | none => .non
  | some m => nV m
def spFewest : Sp := fun vs H Q _ => ∃ f g : W, vs = [txV f, txV g] ∧ f ≠ [] ∧ f.length ≤ 8 ∧ g.length ≤ 8 ∧ ∀ (o : Option Nat) (H' : Hp), Same H H' → Rg.IsMin (Rg.Pc f g) o → Q (oV o) H'
def spRingFewest : Sp := fun vs H Q _ => ∃ f g : W, vs = [txV f, txV g] ∧ Film f ∧ Film g ∧ ∀ (o : Option Nat) (H' : Hp), Same H H' → Rg.IsMin (fun c => ∃ i, i < f.length ∧ Rg.Pc (Rg.rot f i) g c) o → Q (oV o) H'
/-- a dict of numbers by numbers -/
structure DN (kvs : List (Key × V)) (o : Nat → Option Nat) : Prop where
  val : ∀ q : Nat, valV kvs (Sum.inl (q : Int) : Key) = (o q).map nV
theorem DN.get {kvs : List (Key × V)} {o : Nat → Option Nat} (d : DN kvs o) (q : Nat) : (valV kvs (Sum.inl (q : Int) : Key)).getD .non = oV (o q) := by
  rw [d.val]
  cases o q <;> rfl
theorem DN.put {kvs : List (Key × V)} {o : Nat → Option Nat} (d : DN kvs o) (k m : Nat) : DN (putK kvs (Sum.inl (k : Int) : Key) (nV m)) (fun q => if q = k then some m else o q) := ⟨fun q => by
  rw [valV_put]
  by_cases e : q = k
  · subst e
    simp
  · have : ¬ (Sum.inl (q : Int) : Key) = Sum.inl (k : Int) := fun z => e (by have := Sum.inl.inj z; omega)
    rw [if_neg this, if_neg e, d.val]⟩
theorem DN.nil : DN [] (fun _ => none) := ⟨fun q => rfl⟩
/-- those of two that are there -/
def toldN (r s : Option Nat) : List Int := List.map (fun n : Nat => (n : Int)) (r.toList ++ s.toList)
theorem told_eq (r s : Option Nat) : filT (fun v : V => !decide (v = .non)) id [oV r, oV s] 2 = (toldN r s).map V.int := by
  cases r <;> cases s <;> simp [filT, toldN, oV, nV]
theorem told_min {r s : Option Nat} (h : toldN r s ≠ []) {m : Int} (hm : m ∈ toldN r s) (hl : ∀ y, y ∈ toldN r s → m ≤ y) : ∃ k, Rg.optMin r s = some k ∧ m = (k : Int) := by
  cases r with
  | none =>
    cases s with
    | none => exact absurd hm (by simp [toldN])
    | some b =>
      simp [toldN] at hm
      exact ⟨b, rfl, hm⟩
  | some a =>
    cases s with
    | none =>
      simp [toldN] at hm
      exact ⟨a, rfl, hm⟩
    | some b =>
      simp [toldN] at hm hl
      refine ⟨min a b, rfl, ?_⟩
      rcases hm with e | e <;> omega
theorem told_nil {r s : Option Nat} (h : toldN r s = []) : Rg.optMin r s = none := by
  cases r <;> cases s <;> simp_all [toldN, Rg.optMin]
section
variable {P : Program} {w : World} {K : PySem.W.Frag} {mg : Str → Option Value} {base : Heap} {f : Addr} {fd : FuncData}
theorem ok_fewest_of (F : FnP K "fewest_of" sFewestOf f fd) (T : Fr mg) : FnOk P w K mg base CX0 1 f fd ["film", "goal"] spFewest := by
  refine F.ok scFewestOf (fun vs H Q E h => ?_) (fun cdv A outer s H vs Q E hr h => ?_)
  · obtain ⟨f, g, rfl, _⟩ := h
    rfl
  · obtain ⟨f, g, rfl, hf, h1, h2, k⟩ := h
    have hu := hu_of hr
    have nd := scFewestOf.nd
    refine ⟨_, PSs.nox (pss_cons (ps_set (i := 2) nd rfl (Or.inl rfl) (pe_disp (pps_cons pe_int pe_int pps_nil) (by rfl) (by rfl) (fun z => by cases z) (by decide)))
      (pss_cons (ps_for PassesOwn.never rfl (pi_str (pv 1)) (pg_name (i := 3) nd rfl (Or.inl rfl)) (pss_cons (ps_par (i := 5) (j := 6) (by rfl) nd rfl rfl (by decide) rfl rfl (pa_cons pe_dnewK (pa_cons pe_non pa_nil)) (by rfl))
      (pss_cons (ps_for PassesOwn.never rfl (pi_range1 (by rfl) T.range (pa_cons (pe_callB call_len_str (by rfl) T.len bt_len (pa_cons (pv 0) pa_nil)) pa_nil)) (pg_name (i := 4) nd rfl (Or.inl rfl)) (pss_one (ps_if (pt_cmpR op_eq (pe_ix ix_str (pv 0) (pv 4) (fun _ _ => rfl)) (pv 3) (nomark _)) (pss_cons (ps_set (i := 7) nd rfl (Or.inl rfl) (pe_dget1 hu (pv 2) (pv 4) ⟨rfl, rfl, rfl, rfl⟩))
      (pss_cons (ps_setLc (i := 8) (own := [("one", 9)]) (g := (gName 9)) (tt := _) rfl nd rfl rfl (sw_true rfl rfl rfl (by decide +kernel)) (pi_tup (pe_tup (pa_cons (pv 6) (pa_cons (pv 7) pa_nil)))) (blkOk_by (N := nFewestOf) (sc := defScope sFewestOf) (by decide +kernel)) (fun _ _ _ _ _ => pg_name (i := 9) nd rfl (Or.inl rfl)) (fun _ _ _ _ _ => pts_one (pt_cmpR op_notN (pv 9) pe_non (nomark _))) (fun _ _ _ _ _ => (pv 9)))
      (pss_cons (ps_if (pt_cmpR (op_neD hr.units) (pv 8) (pe_lst pa_nil) (nomark _)) (pss_one (ps_dput hu (pv 5) (pe_op op_add (pv 4) pe_int) (pe_callB (cr_min rfl) (by rfl) T.min bt_min (pa_cons (pv 8) pa_nil)) rfl)) pss_nil)
      (pss_one (ps_if (pt_cmpR op_notN (pv 7) pe_non (nomark _)) (pss_one (ps_set (i := 6) nd rfl (Or.inl rfl) (pe_ifExp (pt_cmpR op_isN (pv 6) pe_non (nomark _)) (pe_op op_add (pv 7) pe_int) (pe_callB (call_min2 rfl) (by rfl) T.min bt_min (pa_cons (pv 6) (pa_cons (pe_op op_add (pv 7) pe_int) pa_nil)))))) pss_nil))))) pss_nil)))
      (pss_one (ps_set (i := 2) nd rfl (Or.inl rfl) (pv 5))))))
      (pss_one (ps_ret (pe_dget1 hu (pv 2) (pe_callB call_len_str (by rfl) T.len bt_len (pa_cons (pv 0) pa_nil)) ⟨rfl, rfl, rfl, rfl⟩))))), ?_⟩
    have hl : (tx f).length ≤ sizeLine := txl (by omega)
    intro B0 hB0
    refine ⟨upd_same, [(Sum.inl 0, .int 0)], rfl, by decide, ?_⟩
    have d0 : DN (mergeK [] [(Sum.inl 0, .int 0)]) (fun q => if q = 0 then some 0 else none) := by
      have := DN.nil.put 0 0
      exact this
    refine ⟨_, rfl, _, rfl, for_it walk_tx (fun i σ H1 => ∃ a b c B o x y z kvs, σ = [some (txV f), some (txV g), some (.ref B), a, b, c, x, y, z, none] ∧ Same H H1 ∧ H1 B = some (.dK kvs) ∧ DN kvs o ∧ Rg.BestOk f (g.take i) o) ⟨none, none, none, B0, _, none, none, none, _, rfl, ?_, upd_same, d0, ?_⟩ (fun _ _ _ _ _ => trivial) ?_ ?_⟩
    · exact same_new (same_upd hB0) hB0
    · simpa using Rg.best_zero hf
    · rintro i x σ H1 H2 hi ⟨a, b, c0, B, o, x0, y0, z0, kvs, rfl, s1, hB, d, bo⟩ ⟨rfl, c, hc, rfl⟩
      intro L hL
      refine ⟨_, _, rfl, _, rfl, _, rfl, hl, _, rfl, ?_, ?_, ?_⟩
      · rw [tx_len]; omega
      · rw [tx_len]; omega
      rw [tx_len, Int.toNat_natCast]
      have e5 : g.take (i + 1) = g.take i ++ [c] := take_succ hc
      generalize g.take i = pre at bo e5
      refine for_it walk_range (fun j σ H1 => ∃ b y z r ks ol, σ = [some (txV f), some (txV g), some (.ref B), some (txV [c]), b, some (.ref L), some (oV r), y, z, none] ∧ Same H H1 ∧ H1 B = some (.dK kvs) ∧ H1 L = some (.dK ks) ∧ ks.length ≤ j ∧ DN ks ol ∧
        (∀ q, q ≤ j → Rg.IsMin (fun m => Rg.Pc (f.take q) (pre ++ [c]) m) (ol q)) ∧ (∀ q, j < q → ol q = none) ∧ Rg.IsMin (Rg.RunP f pre c j) r) ⟨b, y0, z0, none, [], _, rfl, same_new s1 (s1.free hL), upd_new hB hL, upd_same, Nat.le_refl _, DN.nil, ?_, fun _ _ => rfl, Rg.run_zero f pre c⟩ (fun _ _ _ _ _ => trivial) ?_ ?_
      · intro q hq
        have : q = 0 := by omega
        subst this
        exact Rg.later_zero f pre c
      · rintro j x σ H0 H3 hj ⟨b, y, z, r, ks, ol, rfl, s3, hB3, hL3, hk, dl, m1, m2, mr⟩ ⟨rfl, ex⟩
        have ex := int_eq ex (show (0 : Int) + (j : Int) = (j : Int) by omega)
        subst ex
        refine ⟨_, rfl, _, rfl, _, _, _, rfl, rfl, hl, atN rfl (List.getElem?_eq_getElem hj), _, rfl, rfl, _, rfl, iteB (fun e => ?_) fun e => ?_⟩
        · have e := of_decide_eq_true (sign_eqV _ _ ▸ e)
          have ej : f[j]? = some c := by rw [List.getElem?_eq_getElem hj, e]
          obtain ⟨n1, n2⟩ := Rg.step_yes hj ej mr (bo j (by omega))
          refine ⟨_, rfl, B, rfl, .inl ⟨_, .inl hB3⟩, _, rfl, _, DGet.k (k := Sum.inl (j : Int)) hB3, ?_⟩
          rw [d.get j]
          generalize o j = s at n1 n2
          refine ⟨_, rfl, _, rfl, by show 2 ≤ sizeLine; decide, fun Tp hTp => ⟨Tp, rfl, ⟨_, .of upd_same⟩, fun D hD => ?_⟩⟩
          have hB4 := upd_new (o := .tup [oV r, oV s]) hB3 hTp
          have hL4 := upd_new (o := .tup [oV r, oV s]) hL3 hTp
          have s4 : Same H (upd H3 Tp (.tup [oV r, oV s])) := same_new s3 (s3.free hTp)
          have hT4 : (upd H3 Tp (.tup [oV r, oV s])) Tp = some (.tup [oV r, oV s]) := upd_same
          generalize upd H3 Tp (.tup [oV r, oV s]) = H4 at hB4 hL4 s4 hT4 hD
          refine lc_it walk_tup (PvL D H4 (filT (fun v : V => !decide (v = .non)) id [oV r, oV s])) (PvL.start hD rfl) (fun _ _ _ p => .of (p.same _ _ hT4)) ?_ ?_
          · rintro t x H5 H6 ht p ⟨rfl, hx⟩
            refine ⟨rfl, _, rfl, rfl, _, rfl, iteB (fun e1 => ?_) fun e1 => ?_⟩
            · exact ⟨_, rfl, _, p.at_, lt_line (Nat.le_trans (filT_len _ _ _ _) (by show 2 ≤ 1000; decide)), PvL.push hD p.same (filT_yes (F := id) hx e1)⟩
            · exact p.skip (filT_no hx e1)
          · intro H5 p
            have hT5 : H5 D = some (.lst ((toldN r s).map V.int)) := by
              rw [p.at_]
              exact congrArg (fun l => some (HO.lst l)) (told_eq r s)
            have hB5 := p.same _ _ hB4
            have hL5 := p.same _ _ hL4
            have s5 := s4.trans p.same
            refine ⟨_, rfl, by show 0 ≤ sizeLine; decide, fun Z hZ => neNil (.of (upd_new hT5 hZ)) (.of upd_same) (fun v hv => ?_) ?_⟩
            · obtain ⟨q, _, rfl⟩ := List.mem_map.mp hv
              exact ok3_int _
            have hT6 := upd_new (o := .lst []) hT5 hZ
            have hB6 := upd_new (o := .lst []) hB5 hZ
            have hL6 := upd_new (o := .lst []) hL5 hZ
            have s6 : Same H (upd H5 Z (.lst [])) := same_new s5 (s5.free hZ)
            generalize upd H5 Z (.lst []) = H6 at hT6 hB6 hL6 s6
            have nBL : B ≠ L := fun e => by
              rw [e] at hB
              rw [hL] at hB
              cases hB
            have nHL : H L = none := s1.free hL
            -- the new entry
            have put : ∀ m : Nat, Rg.optMin r s = some m → ∃ ks' ol', (upd H6 L (.dK (putK ks (Sum.inl ((j + 1 : Nat) : Int)) (nV m)))) L = some (.dK ks') ∧ ks'.length ≤ j + 1 ∧ DN ks' ol' ∧ (∀ q, q ≤ j + 1 → Rg.IsMin (fun m => Rg.Pc (f.take q) (pre ++ [c]) m) (ol' q)) ∧ (∀ q, j + 1 < q → ol' q = none) := fun m hm => by
              refine ⟨_, _, upd_same, ?_, dl.put (j + 1) m, fun q hq => ?_, fun q hq => ?_⟩
              · have := length_putK ks (Sum.inl ((j + 1 : Nat) : Int)) (nV m)
                omega
              · show Rg.IsMin _ (if q = j + 1 then some m else ol q)
                by_cases e : q = j + 1
                · rw [if_pos e, e, ← hm]
                  exact n1
                · rw [if_neg e]
                  exact m1 q (by omega)
              · show (if q = j + 1 then some m else ol q) = none
                rw [if_neg (by omega)]
                exact m2 q (by omega)
            have hB7 : ∀ m : Nat, (upd H6 L (.dK (putK ks (Sum.inl ((j + 1 : Nat) : Int)) (nV m)))) B = some (.dK kvs) := fun m => by rw [upd_ne nBL]; exact hB6
            have s7 : ∀ m : Nat, Same H (upd H6 L (.dK (putK ks (Sum.inl ((j + 1 : Nat) : Int)) (nV m)))) := fun m => same_new s6 nHL
            cases r with
            | none =>
              cases s with
              | none =>
                refine ⟨_, rfl, iteF ?_⟩
                refine ⟨_, rfl, rfl, _, rfl, iteF ?_⟩
                refine ⟨_, _, _, none, ks, ol, rfl, s6, hB6, hL6, by omega, dl, fun q hq => ?_, fun q hq => m2 q (by omega), n2⟩
                by_cases e : q = j + 1
                · rw [e, m2 (j + 1) (by omega)]
                  exact n1
                · exact m1 q (by omega)
              | some b =>
                refine ⟨_, rfl, iteT ?_⟩
                refine ⟨_, rfl, D, toldN none (some b), rfl, .of hT6, by simp [toldN], fun m hm hle => ?_⟩
                obtain ⟨m', hm', rfl⟩ := told_min (by simp [toldN]) hm hle
                refine ⟨_, rfl, _, rfl, _, _, rfl, rfl, L, _, rfl, DPut.k (k := Sum.inl ((j + 1 : Nat) : Int)) hL6 (lt_line (by omega)), ?_⟩
                obtain ⟨ks', ol', g1, g2, g3, g4, g5⟩ := put m' hm'
                refine ⟨_, rfl, rfl, _, rfl, iteT ?_⟩
                refine ⟨_, rfl, rfl, _, rfl, iteT ?_⟩
                refine ⟨_, rfl, _, _, rfl, rfl, ?_⟩
                exact ⟨_, _, _, some (b + 1), ks', ol', rfl, s7 m', hB7 m', g1, g2, g3, g4, g5, n2⟩
            | some a =>
              cases s with
              | none =>
                refine ⟨_, rfl, iteT ?_⟩
                refine ⟨_, rfl, D, toldN (some a) none, rfl, .of hT6, by simp [toldN], fun m hm hle => ?_⟩
                obtain ⟨m', hm', rfl⟩ := told_min (by simp [toldN]) hm hle
                refine ⟨_, rfl, _, rfl, _, _, rfl, rfl, L, _, rfl, DPut.k (k := Sum.inl ((j + 1 : Nat) : Int)) hL6 (lt_line (by omega)), ?_⟩
                obtain ⟨ks', ol', g1, g2, g3, g4, g5⟩ := put m' hm'
                refine ⟨_, rfl, rfl, _, rfl, iteF ?_⟩
                exact ⟨_, _, _, some a, ks', ol', rfl, s7 m', hB7 m', g1, g2, g3, g4, g5, n2⟩
              | some b =>
                refine ⟨_, rfl, iteT ?_⟩
                refine ⟨_, rfl, D, toldN (some a) (some b), rfl, .of hT6, by simp [toldN], fun m hm hle => ?_⟩
                obtain ⟨m', hm', rfl⟩ := told_min (by simp [toldN]) hm hle
                refine ⟨_, rfl, _, rfl, _, _, rfl, rfl, L, _, rfl, DPut.k (k := Sum.inl ((j + 1 : Nat) : Int)) hL6 (lt_line (by omega)), ?_⟩
                obtain ⟨ks', ol', g1, g2, g3, g4, g5⟩ := put m' hm'
                refine ⟨_, rfl, rfl, _, rfl, iteT ?_⟩
                refine ⟨_, rfl, rfl, _, rfl, iteF ?_⟩
                refine ⟨_, rfl, _, rfl, _, _, rfl, rfl, _, _, rfl, ?_⟩
                refine ⟨some (nV j), some (oV (some b)), some (.ref D), some (min a (b + 1)), ks', ol', ?_, s7 m', hB7 m', g1, g2, g3, g4, g5, n2⟩
                have em : (if ((b : Int) + 1 < (a : Int)) then ((b : Int) + 1) else (a : Int)) = ((min a (b + 1) : Nat) : Int) := by
                  split <;> omega
                have ev : V.int (if ((b : Int) + 1 < (a : Int)) then ((b : Int) + 1) else (a : Int)) = oV (some (min a (b + 1))) := congrArg V.int em
                rw [← ev]
                rfl
        · have e := of_decide_eq_false (sign_eqV _ _ ▸ e)
          have ej : f[j]? ≠ some c := by
            rw [List.getElem?_eq_getElem hj]
            intro q
            exact e (Option.some.inj q)
          obtain ⟨n1, n2⟩ := Rg.step_no hj ej mr
          refine ⟨_, _, _, r, ks, ol, rfl, s3, hB3, hL3, by omega, dl, fun q hq => ?_, fun q hq => m2 q (by omega), n2⟩
          by_cases e : q = j + 1
          · rw [e, m2 (j + 1) (by omega)]
            exact n1
          · exact m1 q (by omega)
      · rintro σ H3 ⟨b, y, z, r, ks, ol, rfl, s3, hB3, hL3, hk, dl, m1, m2, mr⟩
        refine ⟨_, rfl, _, _, _, L, ol, _, _, _, ks, rfl, s3, hL3, dl, fun q hq => ?_⟩
        rw [e5]
        exact m1 q hq
    · rintro σ H1 ⟨a, b, c0, B, o, x0, y0, z0, kvs, rfl, s1, hB, d, bo⟩
      refine ⟨_, rfl, B, rfl, .inl ⟨_, .inl hB⟩, _, rfl, _, rfl, hl, _, DGet.k (k := Sum.inl ((f.length : Nat) : Int)) hB, ?_⟩
      rw [d.get]
      refine k _ _ s1 ?_
      have := bo f.length (Nat.le_refl _)
      rw [List.take_length, List.take_length] at this
      exact this
/-- those that are there -/
def somes (os : List (Option Nat)) : List Int := List.map (fun n : Nat => (n : Int)) (os.filterMap id)
theorem somes_eq : ∀ os : List (Option Nat), (os.filter (·.isSome)).map oV = (somes os).map V.int
  | [] => rfl
  | none :: os => by
    have ih := somes_eq os
    simpa [somes] using ih
  | some a :: os => by
    have ih := somes_eq os
    simp only [somes] at ih ⊢
    simp [oV]
    simpa using ih
theorem mem_somes {os : List (Option Nat)} {m : Int} : m ∈ somes os ↔ ∃ k : Nat, some k ∈ os ∧ m = (k : Int) := by
  unfold somes
  simp only [List.mem_map, List.mem_filterMap, id]
  constructor
  · rintro ⟨k, ⟨o, h1, h2⟩, rfl⟩
    exact ⟨k, h2 ▸ h1, rfl⟩
  · rintro ⟨k, h1, rfl⟩
    exact ⟨k, ⟨some k, h1, rfl⟩, rfl⟩
theorem ok_ring_fewest (F : FnP K "ring_fewest" sRingFewest f fd) (T : Fr mg) (Dneed_film : Df P w K mg base "need_film" ["value"] 1 spNeedFilm) (Dneed_short : Df P w K mg base "need_short" ["film", "most"] 1 spNeedShort)
    (Dturned : Df P w K mg base "turned" ["film", "place"] 1 spTurned) (Dfewest_of : Df P w K mg base "fewest_of" ["film", "goal"] 1 spFewest) : FnOk P w K mg base CX0 2 f fd ["film", "goal"] spRingFewest := by
  refine F.ok scRingFewest (fun vs H Q E h => ?_) (fun cdv A outer s H vs Q E hr h => ?_)
  · obtain ⟨f, g, rfl, _⟩ := h
    rfl
  · obtain ⟨f, g, rfl, hf, hg, k⟩ := h
    have hu := hu_of hr
    have nd := scRingFewest.nd
    refine ⟨_, PSs.nox (pss_cons (ps_expr (Dneed_film.call (hr.mono (by decide)) (by rfl) (pa_cons (pv 0) pa_nil)))
      (pss_cons (ps_expr (Dneed_film.call (hr.mono (by decide)) (by rfl) (pa_cons (pv 1) pa_nil)))
      (pss_cons (ps_expr (Dneed_short.call (hr.mono (by decide)) (by rfl) (pa_cons (pv 0) (pa_cons (pe_globE rfl T.cMOST_RING) pa_nil))))
      (pss_cons (ps_setLc (i := 2) (own := [("place", 3)]) (g := (gName 3)) (tt := tYes) rfl nd rfl rfl (sw_true rfl rfl rfl (by decide +kernel)) (pi_range1 (by rfl) T.range (pa_cons (pe_callB call_len_str (by rfl) T.len bt_len (pa_cons (pv 0) pa_nil)) pa_nil)) (blkOk_by (N := nRingFewest) (sc := defScope sRingFewest) (by decide +kernel)) (fun _ _ _ _ _ => pg_name (i := 3) nd rfl (Or.inl rfl)) (fun _ _ _ _ _ => pts_nil) (fun _ _ _ _ _ => (Dfewest_of.call (hr.mono (by decide)) (by rfl) (pa_cons (Dturned.call (hr.mono (by decide)) (by rfl) (pa_cons (pv 0) (pa_cons (pv 3) pa_nil))) (pa_cons (pv 1) pa_nil)))))
      (pss_cons (ps_setLc (i := 4) (own := [("one", 5)]) (g := (gName 5)) (tt := _) rfl nd rfl rfl (sw_true rfl rfl rfl (by decide +kernel)) (pi_list (pv 2)) (blkOk_by (N := nRingFewest) (sc := defScope sRingFewest) (by decide +kernel)) (fun _ _ _ _ _ => pg_name (i := 5) nd rfl (Or.inl rfl)) (fun _ _ _ _ _ => pts_one (pt_cmpR op_notN (pv 5) pe_non (nomark _))) (fun _ _ _ _ _ => (pv 5)))
      (pss_one (ps_ret (pe_ifExp (pt_cmpR (op_neD hr.units) (pv 4) (pe_lst pa_nil) (nomark _)) (pe_callB (cr_min rfl) (by rfl) T.min bt_min (pa_cons (pv 4) pa_nil)) pe_non)))))))), ?_⟩
    have hl : (tx f).length ≤ sizeLine := txl (by have := hf.len; omega)
    have h8 := hf.len
    have g8 := hg.len
    refine ⟨_, rfl, f, rfl, hf, fun H1 s1 => ⟨_, rfl, g, rfl, hg, fun H2 s2 => ⟨_, rfl, f, 60, rfl, by omega, h8, ?_⟩⟩⟩
    refine ⟨_, rfl, _, rfl, hl, _, rfl, ?_, ?_, fun D hD => ?_⟩
    · rw [tx_len]; omega
    · rw [tx_len]; omega
    rw [tx_len, Int.toNat_natCast]
    refine lc_it walk_range (fun i H3 => ∃ os : List (Option Nat), os.length = i ∧ H3 D = some (.lst (os.map oV)) ∧ Same H2 H3 ∧ ∀ j o, os[j]? = some o → Rg.IsMin (Rg.Pc (Rg.rot f j) g) o) ⟨[], rfl, upd_same, same_upd hD, by simp⟩ (fun _ _ _ _ => trivial) ?_ ?_
    · rintro i x H0 H3 hi ⟨os, e1, e2, e3, e4⟩ ⟨rfl, ex⟩
      have ex := int_eq ex (show (0 : Int) + (i : Int) = (i : Int) by omega)
      subst ex
      refine ⟨rfl, tyes ?_⟩
      refine ⟨_, rfl, _, rfl, f, i, rfl, by omega, _, rfl, Rg.rot f i, g, rfl, (Rg.Sim.rot f i).ne hf.ne, by rw [Rg.rot_len]; exact h8, g8, fun o H5 s5 ho => ?_⟩
      refine ⟨_, s5 _ _ e2, lt_line (by rw [List.length_map, e1]; omega), os ++ [o], by simp [e1], by rw [upd_same]; simp, same_new (e3.trans s5) hD, fun j o' hj => ?_⟩
      by_cases e : j < os.length
      · rw [List.getElem?_append_left e] at hj
        exact e4 j o' hj
      · have : j = os.length := by
          have := (List.getElem?_eq_some_iff.mp hj).1
          rw [List.length_append, List.length_singleton] at this
          omega
        subst this
        rw [List.getElem?_append_right (Nat.le_refl _)] at hj
        simp at hj
        rw [← hj, e1]
        exact ho
    · rintro H3 ⟨os, e1, e2, e3, e4⟩
      refine ⟨_, rfl, D, rfl, ⟨_, .of e2⟩, fun D2 hD2 => ?_⟩
      refine lc_it walk_list (PvL D2 H3 (filT (fun o => o.isSome) oV os)) (PvL.start hD2 rfl) (fun _ _ _ p => p.same.seq (.of e2)) ?_ ?_
      · rintro j x H0 H4 hj p ⟨rfl, hx⟩
        obtain ⟨o, ho, rfl⟩ := at_map hx
        refine ⟨rfl, _, rfl, rfl, _, rfl, iteB (fun e => ?_) fun e => ?_⟩
        · refine ⟨_, rfl, _, p.at_, lt_line (Nat.le_trans (filT_len _ _ _ _) (by omega)), PvL.push hD2 p.same (filT_yes ho ?_)⟩
          cases o with
          | none => exact absurd e (by decide)
          | some a => rfl
        · refine p.skip (filT_no ho ?_)
          cases o with
          | none => rfl
          | some a => exact absurd e (by intro z; cases z)
      · intro H4 p
        have hS : H4 D2 = some (.lst ((somes os).map V.int)) := by
          rw [p.at_, List.length_map, filT_all, somes_eq]
        have s4 : Same H H4 := s1.trans (s2.trans (e3.trans p.same))
        refine ⟨_, rfl, by show 0 ≤ sizeLine; decide, fun Z hZ => neNil (.of (upd_new hS hZ)) (.of upd_same) (fun v hv => ?_) ⟨_, rfl, iteB (fun e => ?_) fun e => ?_⟩⟩
        · obtain ⟨q, _, rfl⟩ := List.mem_map.mp hv
          exact ok3_int _
        · have hne : somes os ≠ [] := by
            intro z
            rw [z] at e
            simp at e
          refine ⟨_, rfl, D2, somes os, rfl, .of (upd_new hS hZ), List.length_pos_iff.mpr hne, fun m hm hle => ?_⟩
          obtain ⟨a, ha, rfl⟩ := mem_somes.mp hm
          refine k (some a) _ (same_new s4 (s4.free hZ)) ⟨?_, fun c hc => ?_⟩
          · obtain ⟨j, hj⟩ := List.mem_iff_getElem?.mp ha
            have hj2 := (List.getElem?_eq_some_iff.mp hj).1
            exact ⟨j, by omega, (e4 j _ hj).1⟩
          · obtain ⟨j, hj, hp⟩ := hc
            have hj2 : os[j]? = some os[j] := List.getElem?_eq_getElem (by omega)
            have := e4 j _ hj2
            cases ho : os[j] with
            | none =>
              rw [ho] at this
              exact absurd hp (this c)
            | some b =>
              rw [ho] at this hj2
              have h1 := this.2 c hp
              have h2 := hle (b : Int) (mem_somes.mpr ⟨b, List.mem_iff_getElem?.mpr ⟨j, hj2⟩, rfl⟩)
              omega
        · have hne : somes os = [] := by simpa using e
          refine k none _ (same_new s4 (s4.free hZ)) fun c hc => ?_
          obtain ⟨j, hj, hp⟩ := hc
          have hj2 : os[j]? = some os[j] := List.getElem?_eq_getElem (by omega)
          have := e4 j _ hj2
          cases ho : os[j] with
          | none =>
            rw [ho] at this
            exact this c hp
          | some b =>
            rw [ho] at hj2
            have : (b : Int) ∈ somes os := mem_somes.mpr ⟨b, List.mem_iff_getElem?.mpr ⟨j, hj2⟩, rfl⟩
            rw [hne] at this
            simp at this
end
end G
set_option linter.all false
/-! The plain law, part 6: how many partings, place by place; a bound. -/
namespace Rg
theorem cw_nil (f : W) : cw [] f = if f = [] then 1 else 0 := by rw [cw]
theorem cw_cons (a : Nat) (g f : W) : cw (a :: g) f = if f.head? = some a then cb a g f else 0 := by rw [cw]
theorem cb_nil (a : Nat) (g : W) : cb a g [] = 0 := by rw [cb]
theorem cb_cons (a : Nat) (g : W) (x : Nat) (f : W) : cb a g (x :: f) = (if x = a then cw g f else 0) + cb a g f := by rw [cb]
theorem cb_drop_yes {a : Nat} {g f : W} {p : Nat} (h : f[p]? = some a) : cb a g (f.drop p) = cw g (f.drop (p + 1)) + cb a g (f.drop (p + 1)) := by
  have hp := (List.getElem?_eq_some_iff.mp h).1
  have e := (List.getElem?_eq_some_iff.mp h).2
  rw [List.drop_eq_getElem_cons hp, cb_cons, if_pos e]
theorem cb_drop_no {a : Nat} {g f : W} {p : Nat} (hp : p < f.length) (h : f[p]? ≠ some a) : cb a g (f.drop p) = cb a g (f.drop (p + 1)) := by
  have e : ¬ f[p] = a := fun e => h (by rw [List.getElem?_eq_getElem hp, e])
  rw [List.drop_eq_getElem_cons hp, cb_cons, if_neg e, Nat.zero_add]
theorem cw_drop_yes {a : Nat} {g f : W} {p : Nat} (h : f[p]? = some a) : cw (a :: g) (f.drop p) = cb a g (f.drop p) := by
  rw [cw_cons, if_pos (by rw [List.head?_drop]; exact h)]
theorem cw_drop_no {a : Nat} {g f : W} {p : Nat} (h : f[p]? ≠ some a) : cw (a :: g) (f.drop p) = 0 := by
  rw [cw_cons, if_neg (by rw [List.head?_drop]; exact h)]
/-! ### a bound -/
def bn : Nat → Nat → Nat
  | 0, r => if r = 0 then 1 else 0
  | k + 1, r => ((List.range r).map (bn k)).sum
theorem cb_le (a : Nat) (g : W) (h : ∀ f : W, cw g f ≤ bn g.length f.length) : ∀ f : W, cb a g f ≤ bn (g.length + 1) f.length
  | [] => by
    rw [cb_nil]
    omega
  | x :: f => by
    have ih := cb_le a g h f
    have h1 := h f
    rw [cb_cons]
    show _ ≤ ((List.range (f.length + 1)).map (bn g.length)).sum
    rw [List.range_succ, List.map_append, List.sum_append]
    have : bn (g.length + 1) f.length = ((List.range f.length).map (bn g.length)).sum := rfl
    rw [this] at ih
    simp only [List.map_cons, List.map_nil, List.sum_cons, List.sum_nil]
    split <;> omega
theorem cw_le : ∀ (g f : W), cw g f ≤ bn g.length f.length
  | [], f => by
    rw [cw_nil]
    show _ ≤ if f.length = 0 then 1 else 0
    by_cases e : f = []
    · subst e
      simp
    · rw [if_neg e]
      omega
  | a :: g, f => by
    rw [cw_cons]
    split
    · exact cb_le a g (cw_le g) f
    · omega
theorem bn_small : ∀ k, k ≤ 8 → ∀ r, r ≤ 8 → bn k r < 64 := by decide
theorem cw_small {g f : W} (hg : g.length ≤ 8) (hf : f.length ≤ 8) : cw g f < 64 := Nat.lt_of_le_of_lt (cw_le g f) (bn_small _ hg _ hf)
end Rg
set_option Elab.async false
set_option linter.all false
set_option maxRecDepth 100000
set_option maxHeartbeats 4000000
namespace G
open PySem PySem.Spec PyProof.Rows L2
open Rg (W)
abbrev nWaysBehind : List Str := ["film", "goal", "many", "found", "index", "place", "letter", "behind"]
theorem scWaysBehind : FnScope nWaysBehind ["film", "goal"] (defScope sWaysBehind) := ⟨rfl, rfl, rfl, by decide +kernel, rfl, by decide +kernel, by decide +kernel⟩
abbrev nRingPartings : List Str := ["film", "goal", "place"]
theorem scRingPartings : FnScope nRingPartings ["film", "goal"] (defScope sRingPartings) := ⟨rfl, rfl, rfl, by decide +kernel, rfl, by decide +kernel, by decide +kernel⟩
/-- the key (j, p) -/
def kk (j p : Nat) : List Key := [Sum.inl (j : Int), Sum.inl (p : Int)]
theorem kk_eq (a b c d : Nat) : kk a b = kk c d ↔ a = c ∧ b = d := by
  unfold kk
  constructor
  · intro h
    injection h with h1 h2
    injection h2 with h2 _
    have h1 := Sum.inl.inj h1
    have h2 := Sum.inl.inj h2
    omega
  · rintro ⟨rfl, rfl⟩
    rfl
/-- the entry at (j, p), 0 if there is none -/
def gW (kvs : List (List Key × V)) (j p : Nat) : V := (valV kvs (kk j p)).getD (.int 0)
def spWays : Sp := fun vs H Q _ => ∃ f g : W, vs = [txV f, txV g] ∧ f.length ≤ 8 ∧ g.length ≤ 8 ∧ ∀ (d : Addr) (kvs : List (List Key × V)) (H' : Hp), Same H H' → H' d = some (.dT kvs) → gW kvs 0 0 = nV (Rg.cw g f) → Q (.ref d) H'
def spPartings : Sp := fun vs H Q _ => ∃ f g : W, vs = [txV f, txV g] ∧ Film f ∧ Film g ∧ ∀ H', Same H H' → Q (.int ((List.range f.length).map fun i => ((Rg.cw g (Rg.rot f i) : Nat) : Int)).sum) H'
theorem drop_eq_nil {f : W} {p : Nat} (hp : p ≤ f.length) : f.drop p = [] ↔ p = f.length := by
  rw [List.drop_eq_nil_iff]
  omega
section
variable {P : Program} {w : World} {K : PySem.W.Frag} {mg : Str → Option Value} {base : Heap} {f : Addr} {fd : FuncData}
theorem ok_ways_behind (F : FnP K "ways_behind" sWaysBehind f fd) (T : Fr mg) : FnOk P w K mg base CX0 1 f fd ["film", "goal"] spWays := by
  refine F.ok scWaysBehind (fun vs H Q E h => ?_) (fun cdv A outer s H vs Q E hr h => ?_)
  · obtain ⟨f, g, rfl, _⟩ := h
    rfl
  · obtain ⟨f, g, rfl, h1, h2, k⟩ := h
    have hu := hu_of hr
    have nd := scWaysBehind.nd
    refine ⟨_, PSs.nox (pss_cons (ps_set (i := 2) nd rfl (Or.inl rfl) (pe_callB call_len_str (by rfl) T.len bt_len (pa_cons (pv 0) pa_nil)))
      (pss_cons (ps_set (i := 3) nd rfl (Or.inl rfl) (pe_dispT hu (pe_tup (pa_cons (pe_callB call_len_str (by rfl) T.len bt_len (pa_cons (pv 1) pa_nil)) (pa_cons (pv 2) pa_nil))) pe_int))
      (pss_cons (ps_for PassesOwn.never rfl (pi_range3 (by rfl) T.range (pa_cons (pe_op op_sub (pe_callB call_len_str (by rfl) T.len bt_len (pa_cons (pv 1) pa_nil)) pe_int) (pa_cons (pe_un un_neg pe_int) (pa_cons (pe_un un_neg pe_int) pa_nil)))) (pg_name (i := 4) nd rfl (Or.inl rfl)) (pss_cons (ps_par (i := 6) (j := 7) (by rfl) nd rfl rfl (by decide) rfl rfl (pa_cons (pe_ix ix_str (pv 1) (pv 4) (fun _ _ => rfl)) (pa_cons pe_int pa_nil)) (by rfl))
      (pss_one (ps_for PassesOwn.never rfl (pi_range3 (by rfl) T.range (pa_cons (pe_op op_sub (pv 2) pe_int) (pa_cons (pe_un un_neg pe_int) (pa_cons (pe_un un_neg pe_int) pa_nil)))) (pg_name (i := 5) nd rfl (Or.inl rfl)) (pss_one (ps_if (pt_cmpR op_eq (pe_ix ix_str (pv 0) (pv 5) (fun _ _ => rfl)) (pv 6) (nomark _)) (pss_cons (ps_aug (i := 7) nd rfl (Or.inl rfl) (pe_dget2 hu (pv 3) (pe_tup (pa_cons (pe_op op_add (pv 4) pe_int) (pa_cons (pe_op op_add (pv 5) pe_int) pa_nil))) pe_int ⟨rfl, rfl, rfl, rfl⟩) ip_add)
      (pss_one (ps_dput hu (pv 3) (pe_tup (pa_cons (pv 4) (pa_cons (pv 5) pa_nil))) (pv 7) rfl))) pss_nil))))))
      (pss_one (ps_ret (pv 3)))))), ?_⟩
    have hl : (tx f).length ≤ sizeLine := txl (by omega)
    have hl2 : (tx g).length ≤ sizeLine := txl (by omega)
    refine ⟨_, rfl, _, rfl, hl, ?_⟩
    intro d hd
    refine ⟨_, rfl, _, rfl, hl2, _, rfl, by show 2 ≤ sizeLine; decide, fun t ht => ⟨?_, kk g.length f.length, t, .int 1, rfl, ?_, ?_⟩⟩
    · rw [upd_ne (fun e => by rw [← e] at ht; rw [upd_same] at ht; cases ht), upd_same]
    · rw [upd_same, tx_len, tx_len]
      rfl
    have ndt : d ≠ t := fun e => by rw [← e] at ht; rw [upd_same] at ht; cases ht
    have s0 : Same H (upd (upd (upd H d (.dT [])) t (.tup [V.int ((tx g).length : Int), V.int ((tx f).length : Int)])) d (.dT [(kk g.length f.length, .int 1)])) := by
      refine same_new (same_new (same_upd hd) ?_) hd
      rw [upd_ne (Ne.symm ndt)] at ht
      exact ht
    have hd0 : (upd (upd (upd H d (.dT [])) t (.tup [V.int ((tx g).length : Int), V.int ((tx f).length : Int)])) d (.dT [(kk g.length f.length, .int 1)])) d = some (.dT [(kk g.length f.length, .int 1)]) := upd_same
    generalize upd (upd (upd H d (.dT [])) t (.tup [V.int ((tx g).length : Int), V.int ((tx f).length : Int)])) d (.dT [(kk g.length f.length, .int 1)]) = H0 at s0 hd0
    refine ⟨_, rfl, _, rfl, hl2, _, _, rfl, rfl, _, rfl, _, rfl, _, _, _, _, rfl, RgC.neg ?_ ?_ ?_ ?_, ?_⟩
    · rw [tx_len]; omega
    · rw [tx_len]; omega
    · decide
    · decide
    have en : ((((tx g).length : Int) - 1) - (-1)).toNat = g.length := by rw [tx_len]; omega
    rw [en]
    refine for_it walk_rangeC (fun t σ H1 => ∃ a b c e kvs, σ = [some (txV f), some (txV g), some (.int ((tx f).length : Int)), some (.ref d), a, b, c, e] ∧ Same H H1 ∧ H1 d = some (.dT kvs) ∧ kvs.length ≤ 1 + t * 8 ∧
      (∀ j p, g.length - t ≤ j → j ≤ g.length → p ≤ f.length → gW kvs j p = nV (Rg.cw (g.drop j) (f.drop p))) ∧ ∀ j p, j < g.length - t → valV kvs (kk j p) = none) ⟨none, none, none, none, _, rfl, s0, hd0, by simp, ?_, ?_⟩ (fun _ _ _ _ _ => trivial) ?_ ?_
    · intro j p hj1 hj2 hp
      have ej : j = g.length := by omega
      subst ej
      rw [List.drop_length, Rg.cw_nil]
      unfold gW
      by_cases e : p = f.length
      · subst e
        rw [valV_pos rfl, if_pos ((drop_eq_nil hp).mpr rfl)]
        rfl
      · rw [valV_neg (fun q => e ((kk_eq _ _ _ _).mp q).2.symm), if_neg (fun q => e ((drop_eq_nil hp).mp q))]
        rfl
    · intro j p hj
      rw [valV_neg (fun q => by have := ((kk_eq _ _ _ _).mp q).1; omega)]
      rfl
    · rintro t x σ H1 H2 ht ⟨a, b, c0, e0, kvs, rfl, s1, hD, hk, g1, g2⟩ ⟨rfl, ex⟩
      have ex := int_eq ex (show (((tx g).length : Int) - 1) + (t : Int) * (-1) = ((g.length - 1 - t : Nat) : Int) by rw [tx_len]; omega)
      subst ex
      have hj : g.length - 1 - t < g.length := by omega
      have ej : g.length - t = g.length - 1 - t + 1 := by omega
      rw [ej] at g1 g2
      generalize hjj : g.length - 1 - t = j at hj g1 g2
      refine ⟨_, rfl, _, rfl, _, _, _, rfl, rfl, hl2, atN rfl (List.getElem?_eq_getElem hj), _, _, rfl, ?_⟩
      refine ⟨_, rfl, _, _, rfl, rfl, _, rfl, _, rfl, _, _, _, _, rfl, RgC.neg ?_ ?_ ?_ ?_, ?_⟩
      · rw [tx_len]; omega
      · rw [tx_len]; omega
      · decide
      · decide
      have en2 : ((((tx f).length : Int) - 1) - (-1)).toNat = f.length := by rw [tx_len]; omega
      rw [en2]
      have eg : g.drop j = g[j] :: g.drop (j + 1) := List.drop_eq_getElem_cons hj
      generalize g[j] = a1 at eg
      have mem : ∀ (kvs' : List (List Key × V)) (p : Nat), valV kvs' (kk j p) = none → gW kvs' j p = nV 0 := fun kvs' p h => by
        unfold gW
        rw [h]
        rfl
      refine for_it walk_rangeC (fun s σ H1 => ∃ b kvs', σ = [some (txV f), some (txV g), some (.int ((tx f).length : Int)), some (.ref d), some (nV j), b, some (txV [a1]), some (nV (Rg.cb a1 (g.drop (j + 1)) (f.drop (f.length - s))))] ∧ Same H H1 ∧ H1 d = some (.dT kvs') ∧ kvs'.length ≤ 1 + t * 8 + s ∧
        (∀ j' p, j + 1 ≤ j' → j' ≤ g.length → p ≤ f.length → gW kvs' j' p = nV (Rg.cw (g.drop j') (f.drop p))) ∧ (∀ p, f.length - s ≤ p → p ≤ f.length → gW kvs' j p = nV (Rg.cw (g.drop j) (f.drop p))) ∧
        (∀ p, p < f.length - s → valV kvs' (kk j p) = none) ∧ ∀ j' p, j' < j → valV kvs' (kk j' p) = none) ⟨b, kvs, ?_, s1, hD, by omega, g1, fun p hp1 hp2 => ?_, fun p _ => g2 j p (by omega), fun j' p hj' => g2 j' p (by omega)⟩ (fun _ _ _ _ _ => trivial) ?_ ?_
      · rw [Nat.sub_zero, List.drop_length, Rg.cb_nil]
        rfl
      · have ep : p = f.length := by omega
        rw [mem kvs p (g2 j p (by omega)), ep, List.drop_length, eg, Rg.cw_cons]
        rfl
      · rintro s x σ H3 H4 hs ⟨b, kvs', rfl, s3, hD3, hk3, m1, m2, m3, m4⟩ ⟨rfl, ex⟩
        have ex := int_eq ex (show (((tx f).length : Int) - 1) + (s : Int) * (-1) = ((f.length - 1 - s : Nat) : Int) by rw [tx_len]; omega)
        subst ex
        have hp : f.length - 1 - s < f.length := by omega
        have ep : f.length - s = f.length - 1 - s + 1 := by omega
        have ep2 : f.length - (s + 1) = f.length - 1 - s := by omega
        rw [ep] at m2 m3
        rw [ep2, ep]
        generalize hpp : f.length - 1 - s = p at hp m2 m3
        refine ⟨_, rfl, _, rfl, _, _, _, rfl, rfl, hl, atN rfl (List.getElem?_eq_getElem hp), _, rfl, rfl, _, rfl, iteB (fun e => ?_) fun e => ?_⟩
        · have e := of_decide_eq_true (sign_eqV _ _ ▸ e)
          have ea : f[p]? = some a1 := by rw [List.getElem?_eq_getElem hp, e]
          refine ⟨_, rfl, _, rfl, d, rfl, .inr ⟨_, .inl hD3⟩, _, rfl, _, _, rfl, rfl, _, rfl, _, _, rfl, rfl, by show 2 ≤ sizeLine; decide, fun Tp hTp => ?_⟩
          have hD4 := upd_new (o := .tup ((kk (j + 1) (p + 1)).map kV)) hD3 hTp
          have s4 : Same H (upd H4 Tp (.tup ((kk (j + 1) (p + 1)).map kV))) := same_new s3 (s3.free hTp)
          refine ⟨_, DGet.t (k := kk (j + 1) (p + 1)) hD4 upd_same, ?_⟩
          have eget : (valV kvs' (kk (j + 1) (p + 1))).getD (.int 0) = nV (Rg.cw (g.drop (j + 1)) (f.drop (p + 1))) := m1 (j + 1) (p + 1) (by omega) (by omega) (by omega)
          rw [eget]
          have ecb := Rg.cb_drop_yes (g := g.drop (j + 1)) ea
          have ecw := Rg.cw_drop_yes (g := g.drop (j + 1)) ea
          refine ⟨_, _, rfl, rfl, ?_⟩
          have eint : (fun i j : Int => i + j) ((Rg.cb a1 (g.drop (j + 1)) (f.drop (p + 1)) : Nat) : Int) ((Rg.cw (g.drop (j + 1)) (f.drop (p + 1)) : Nat) : Int) = ((Rg.cb a1 (g.drop (j + 1)) (f.drop p) : Nat) : Int) := by
            show _ + _ = _
            rw [ecb]; omega
          refine ⟨_, rfl, _, rfl, _, rfl, _, rfl, by show 2 ≤ sizeLine; decide, fun Tq hTq => ?_⟩
          rw [eint]
          have hD5 := upd_new (o := .tup ((kk j p).map kV)) hD4 hTq
          have s5 := same_new (o := .tup ((kk j p).map kV)) s4 (s4.free hTq)
          have hQ5 : (upd (upd H4 Tp (.tup ((kk (j + 1) (p + 1)).map kV))) Tq (.tup ((kk j p).map kV))) Tq = some (.tup ((kk j p).map kV)) := upd_same
          refine ⟨d, _, rfl, DPut.t (k := kk j p) hD5 hQ5 (lt_line (by omega)), ?_⟩
          refine ⟨_, putK kvs' (kk j p) (nV (Rg.cb a1 (g.drop (j + 1)) (f.drop p))), rfl, same_new s5 hd, upd_same, ?_, fun j' q hj1 hj2 hq => ?_, fun q hq1 hq2 => ?_, fun q hq => ?_, fun j' q hj' => ?_⟩
          · have := length_putK kvs' (kk j p) (nV (Rg.cb a1 (g.drop (j + 1)) (f.drop p)))
            omega
          · unfold gW
            rw [valV_put, if_neg (fun z => by have := ((kk_eq _ _ _ _).mp z).1; omega)]
            exact m1 j' q hj1 hj2 hq
          · unfold gW
            rw [valV_put]
            by_cases eq : q = p
            · subst eq
              rw [if_pos rfl, eg, ecw]
              rfl
            · rw [if_neg (fun z => eq ((kk_eq _ _ _ _).mp z).2)]
              exact m2 q (by omega) hq2
          · rw [valV_put, if_neg (fun z => by have := ((kk_eq _ _ _ _).mp z).2; omega)]
            exact m3 q (by omega)
          · rw [valV_put, if_neg (fun z => by have := ((kk_eq _ _ _ _).mp z).1; omega)]
            exact m4 j' q hj'
        · have e := of_decide_eq_false (sign_eqV _ _ ▸ e)
          have ea : f[p]? ≠ some a1 := by
            rw [List.getElem?_eq_getElem hp]
            intro q
            exact e (Option.some.inj q)
          rw [Rg.cb_drop_no (g := g.drop (j + 1)) hp ea]
          refine ⟨_, kvs', rfl, s3, hD3, by omega, m1, fun q hq1 hq2 => ?_, fun q hq => m3 q (by omega), m4⟩
          by_cases eq : q = p
          · subst eq
            rw [mem kvs' q (m3 q (by omega)), eg, Rg.cw_drop_no ea]
          · exact m2 q (by omega) hq2
      · rintro σ H3 ⟨b, kvs', rfl, s3, hD3, hk3, m1, m2, m3, m4⟩
        refine ⟨_, _, _, _, kvs', rfl, s3, hD3, by omega, fun j' p hj1 hj2 hp => ?_, fun j' p hj' => m4 j' p (by omega)⟩
        by_cases eq : j' = j
        · subst eq
          exact m2 p (by omega) hp
        · exact m1 j' p (by omega) hj2 hp
    · rintro σ H1 ⟨a, b, c0, e0, kvs, rfl, s1, hD, hk, g1, g2⟩
      refine ⟨_, rfl, k d kvs H1 s1 hD ?_⟩
      have := g1 0 0 (by omega) (by omega) (by omega)
      simpa using this
theorem ok_ring_partings (F : FnP K "ring_partings" sRingPartings f fd) (T : Fr mg) (Dneed_film : Df P w K mg base "need_film" ["value"] 1 spNeedFilm) (Dneed_short : Df P w K mg base "need_short" ["film", "most"] 1 spNeedShort)
    (Dturned : Df P w K mg base "turned" ["film", "place"] 1 spTurned) (Dways_behind : Df P w K mg base "ways_behind" ["film", "goal"] 1 spWays) : FnOk P w K mg base CX0 2 f fd ["film", "goal"] spPartings := by
  refine F.ok scRingPartings (fun vs H Q E h => ?_) (fun cdv A outer s H vs Q E hr h => ?_)
  · obtain ⟨f, g, rfl, _⟩ := h
    rfl
  · obtain ⟨f, g, rfl, hf, hg, k⟩ := h
    have hu := hu_of hr
    have nd := scRingPartings.nd
    refine ⟨_, PSs.nox (pss_cons (ps_expr (Dneed_film.call (hr.mono (by decide)) (by rfl) (pa_cons (pv 0) pa_nil)))
      (pss_cons (ps_expr (Dneed_film.call (hr.mono (by decide)) (by rfl) (pa_cons (pv 1) pa_nil)))
      (pss_cons (ps_expr (Dneed_short.call (hr.mono (by decide)) (by rfl) (pa_cons (pv 0) (pa_cons (pe_globE rfl T.cMOST_RING) pa_nil))))
      (pss_one (ps_ret (pe_callB (cr_sum rfl) (by rfl) T.sum bt_sum (pa_cons (pe_lc (own := [("place", 2)]) (g := (gName 2)) (tt := tYes) rfl nd (pi_range1 (by rfl) T.range (pa_cons (pe_callB call_len_str (by rfl) T.len bt_len (pa_cons (pv 0) pa_nil)) pa_nil)) (blkOk_by (N := nRingPartings) (sc := defScope sRingPartings) (by decide +kernel)) (fun _ _ _ _ _ => pg_name (i := 2) nd rfl (Or.inl rfl)) (fun _ _ _ _ _ => pts_nil) (fun _ _ _ _ _ => (pe_dget2 hu (Dways_behind.call (hr.mono (by decide)) (by rfl) (pa_cons (Dturned.call (hr.mono (by decide)) (by rfl) (pa_cons (pv 0) (pa_cons (pv 2) pa_nil))) (pa_cons (pv 1) pa_nil))) (pe_tup (pa_cons pe_int (pa_cons pe_int pa_nil))) pe_int ⟨rfl, rfl, rfl, rfl⟩))) pa_nil))))))), ?_⟩
    have hl : (tx f).length ≤ sizeLine := txl (by have := hf.len; omega)
    have h8 := hf.len
    have g8 := hg.len
    refine ⟨_, rfl, f, rfl, hf, fun H1 s1 => ⟨_, rfl, g, rfl, hg, fun H2 s2 => ⟨_, rfl, f, 60, rfl, by omega, h8, ?_⟩⟩⟩
    refine ⟨_, rfl, _, rfl, hl, _, rfl, ?_, ?_, fun D hD => ?_⟩
    · rw [tx_len]; omega
    · rw [tx_len]; omega
    rw [tx_len, Int.toNat_natCast]
    refine lc_it walk_range (PvL D H2 (mapL fun i => nV (Rg.cw g (Rg.rot f i)))) (PvL.start hD rfl) (fun _ _ _ _ => trivial) ?_ ?_
    · rintro i x H0 H3 hi p ⟨rfl, ex⟩
      have ex := int_eq ex (show (0 : Int) + (i : Int) = (i : Int) by omega)
      subst ex
      refine ⟨rfl, tyes ?_⟩
      refine ⟨_, rfl, _, rfl, f, i, rfl, by omega, _, rfl, Rg.rot f i, g, rfl, by rw [Rg.rot_len]; exact h8, g8, fun d kvs H5 s5 hd hw => ?_⟩
      refine ⟨d, rfl, .inr ⟨_, .inl hd⟩, by show 2 ≤ sizeLine; decide, fun Tp hTp => ⟨_, DGet.t (k := kk 0 0) (upd_new hd hTp) upd_same, ?_⟩⟩
      have hw2 : (valV kvs (kk 0 0)).getD (.int 0) = nV (Rg.cw g (Rg.rot f i)) := hw
      rw [hw2]
      have p6 := (p.later s5).later (same_upd (o := .tup ((kk 0 0).map kV)) hTp)
      exact ⟨_, p6.at_, lt_line (by rw [mapL_len]; omega), PvL.push hD p6.same (mapL_succ _ _)⟩
    · intro H3 p
      refine ⟨D, (List.range f.length).map fun i => ((Rg.cw g (Rg.rot f i) : Nat) : Int), rfl, .of ?_, k _ (s1.trans (s2.trans p.same))⟩
      rw [p.at_]
      simp [mapL, List.map_map, Function.comp_def]
end
end G
set_option Elab.async false
set_option linter.all false
set_option maxRecDepth 100000
set_option maxHeartbeats 8000000
namespace G
open PySem PySem.Spec PyProof.Rows L2
open Rg (W)
abbrev nLawPartings : List Str := ["_law_film_here", "_law_goal_here", "_law_found", "_law_letter", "_law_later", "_law_told", "_law_start", "_law_place"]
theorem scLawPartings : FnScope nLawPartings ["_law_film_here", "_law_goal_here"] (defScope sLawPartings) := ⟨rfl, rfl, rfl, by decide +kernel, rfl, by decide +kernel, by decide +kernel⟩
def spLawPartings : Sp := fun vs H Q _ => ∃ f g : W, vs = [txV f, txV g] ∧ f.length ≤ 8 ∧ g ≠ [] ∧ g.length ≤ 8 ∧ ∀ (p : Addr) (xs : List V) (H' : Hp), Same H H' → H' p = some (.lst xs) → xs.length = Rg.cw g f → Q (.ref p) H'
/-- a pair (told, start) as it stands -/
structure Tr where
  a : Addr
  t : Addr
  told : List Nat
  start : Nat
def TrOk (H : Hp) (x : Tr) : Prop := H x.a = some (.tup [.ref x.t, nV x.start]) ∧ H x.t = some (.tup (x.told.map nV))
theorem TrOk.same {H H' : Hp} {x : Tr} (h : TrOk H x) (s : Same H H') : TrOk H' x := ⟨s _ _ h.1, s _ _ h.2⟩
theorem TrOk.store {H : Hp} {x : Tr} {l : Addr} {us vs : List V} (h : TrOk H x) (hl : H l = some (.lst us)) : TrOk (upd H l (.lst vs)) x :=
  ⟨by rw [upd_ne (ne_of h.1 hl (by intro z; cases z))]; exact h.1, by rw [upd_ne (ne_of h.2 hl (by intro z; cases z))]; exact h.2⟩
/-- the entries of a round -/
structure TrAll (H : Hp) (n i : Nat) (L : List Tr) : Prop where
  ok : ∀ x ∈ L, TrOk H x
  le : ∀ x ∈ L, x.start ≤ n
  len : ∀ x ∈ L, x.told.length = i
  sm : ∀ x ∈ L, ∀ y ∈ x.told, y < 64
theorem TrAll.same {H H' : Hp} {n i : Nat} {L : List Tr} (h : TrAll H n i L) (s : Same H H') : TrAll H' n i L := ⟨fun x hx => (h.ok x hx).same s, h.le, h.len, h.sm⟩
theorem TrAll.store {H : Hp} {n i : Nat} {L : List Tr} {l : Addr} {us vs : List V} (h : TrAll H n i L) (hl : H l = some (.lst us)) : TrAll (upd H l (.lst vs)) n i L := ⟨fun x hx => (h.ok x hx).store hl, h.le, h.len, h.sm⟩
theorem TrAll.snoc {H : Hp} {n i : Nat} {L : List Tr} {x : Tr} (h : TrAll H n i L) (h1 : TrOk H x) (h2 : x.start ≤ n) (h3 : x.told.length = i) (h4 : ∀ y ∈ x.told, y < 64) : TrAll H n i (L ++ [x]) := by
  refine ⟨fun y hy => ?_, fun y hy => ?_, fun y hy => ?_, fun y hy => ?_⟩ <;>
  · rcases List.mem_append.mp hy with q | q
    · first | exact h.ok y q | exact h.le y q | exact h.len y q | exact h.sm y q
    · rw [List.mem_singleton] at q
      subst q
      assumption
def trs (L : List Tr) : List V := L.map fun x => V.ref x.a
theorem trs_snoc (L : List Tr) (x : Tr) : trs (L ++ [x]) = trs L ++ [.ref x.a] := by simp [trs]
theorem trs_len (L : List Tr) : (trs L).length = L.length := by simp [trs]
/-- what still comes of the entries -/
def cnt (g f : W) (L : List Tr) : Nat := (L.map fun x => Rg.cw g (f.drop x.start)).sum
def pot (n : Nat) (L : List Tr) : Nat := (L.map fun x => 2 ^ (n - x.start)).sum
theorem cnt_snoc (g f : W) (L : List Tr) (x : Tr) : cnt g f (L ++ [x]) = cnt g f L + Rg.cw g (f.drop x.start) := by simp [cnt]
theorem pot_snoc (n : Nat) (L : List Tr) (x : Tr) : pot n (L ++ [x]) = pot n L + 2 ^ (n - x.start) := by simp [pot]
theorem pot_len (n : Nat) : ∀ L : List Tr, L.length ≤ pot n L
  | [] => by simp [pot]
  | x :: L => by
    have ih := pot_len n L
    have : 1 ≤ 2 ^ (n - x.start) := Nat.one_le_two_pow
    simp only [pot, List.map_cons, List.sum_cons, List.length_cons] at ih ⊢
    omega
theorem cnt_take {g f : W} {L : List Tr} {k : Nat} {x : Tr} (h : L[k]? = some x) : cnt g f (L.take (k + 1)) = cnt g f (L.take k) + Rg.cw g (f.drop x.start) := by rw [take_succ h, cnt_snoc]
theorem pot_take {n : Nat} {L : List Tr} {k : Nat} {x : Tr} (h : L[k]? = some x) : pot n (L.take (k + 1)) = pot n (L.take k) + 2 ^ (n - x.start) := by rw [take_succ h, pot_snoc]
theorem pot_mono (n : Nat) : ∀ (L : List Tr) (k : Nat), pot n (L.take k) ≤ pot n L
  | [], k => by simp [pot]
  | x :: L, 0 => by simp [pot]
  | x :: L, k + 1 => by
    have ih := pot_mono n L k
    simp only [pot, List.take_succ_cons, List.map_cons, List.sum_cons] at ih ⊢
    omega
/-- the full ones -/
theorem cnt_done {f : W} : ∀ {L : List Tr}, (∀ x ∈ L, x.start ≤ f.length) → cnt [] f L = (L.filter fun x => decide (x.start = f.length)).length
  | [], _ => rfl
  | x :: L, h => by
    have ih := cnt_done fun y hy => h y (List.mem_cons_of_mem _ hy)
    have hx := h x List.mem_cons_self
    simp only [cnt, List.map_cons, List.sum_cons] at ih ⊢
    rw [ih, Rg.cw_nil, List.filter_cons]
    by_cases e : x.start = f.length
    · rw [if_pos ((drop_eq_nil hx).mpr e), if_pos (decide_eq_true e), List.length_cons]
      omega
    · rw [if_neg (fun q => e ((drop_eq_nil hx).mp q)), if_neg (by simpa using e)]
      omega
section
variable {P : Program} {w : World} {K : PySem.W.Frag} {mg : Str → Option Value} {base : Heap} {f : Addr} {fd : FuncData}
theorem ok_law_partings (F : FnP K "_law_partings" sLawPartings f fd) (T : Fr mg) : FnOk P w K mg base CX0 1 f fd ["_law_film_here", "_law_goal_here"] spLawPartings := by
  refine F.ok scLawPartings (fun vs H Q E h => ?_) (fun cdv A outer s H vs Q E hr h => ?_)
  · obtain ⟨f, g, rfl, _⟩ := h
    rfl
  · obtain ⟨f, g, rfl, h1, hg, h2, k⟩ := h
    have hu := hu_of hr
    have nd := scLawPartings.nd
    have hdd : 1 ≤ g.length := List.length_pos_iff.mpr hg
    generalize hgl : g.length = dd at hdd
    refine ⟨_, PSs.nox (pss_cons (ps_set (i := 2) nd rfl (Or.inl rfl) (pe_lst (pa_cons (pe_tup (pa_cons (pe_tup pa_nil) (pa_cons pe_int pa_nil))) pa_nil)))
      (pss_cons (ps_for PassesOwn.never rfl (pi_str (pv 1)) (pg_name (i := 3) nd rfl (Or.inl rfl)) (pss_cons (ps_set (i := 4) nd rfl (Or.inl rfl) (pe_lst pa_nil))
      (pss_cons (ps_for PassesOwn.never rfl (pi_list (pv 2)) (pg_tup (by rfl) (pgs_cons (pg_name (i := 5) nd rfl (Or.inl rfl)) (pgs_cons (pg_name (i := 6) nd rfl (Or.inl rfl)) pgs_nil))) (pss_one (ps_if (PW.pt (pw_and (pt_cmpR op_lt (pv 6) (pe_callB call_len_str (by rfl) T.len bt_len (pa_cons (pv 0) pa_nil)) (nomark _)) (pw_and1 (pt_cmpR op_eq (pe_ix ix_str (pv 0) (pv 6) (fun _ _ => rfl)) (pv 3) (nomark _))))) (pss_one (ps_for PassesOwn.never rfl (pi_range2 (by rfl) T.range (pa_cons (pv 6) (pa_cons (pe_callB call_len_str (by rfl) T.len bt_len (pa_cons (pv 0) pa_nil)) pa_nil))) (pg_name (i := 7) nd rfl (Or.inl rfl)) (pss_one (ps_if (pt_cmpR op_eq (pe_ix ix_str (pv 0) (pv 7) (fun _ _ => rfl)) (pv 3) (nomark _)) (pss_one (ps_expr (pe_bm PySem.F.plainAttrs_list PySem.F.slot_list_append PySem.F.type_list_append mt_append (pv 4) (pa_cons (pe_tup (pa_cons (pe_op op_catA (pv 5) (pe_tup (pa_cons (pv 7) pa_nil))) (pa_cons (pe_op op_add (pv 7) pe_int) pa_nil))) pa_nil)))) pss_nil)))) pss_nil)))
      (pss_one (ps_set (i := 2) nd rfl (Or.inl rfl) (pv 4))))))
      (pss_one (ps_ret (pe_callB (cr_sortT (d := dd) (B := 64) hdd) (by rfl) T.sorted bt_sorted (pa_cons (pe_lc (own := [("_law_told", 5), ("_law_start", 6)]) (g := (gTup K 2 (gCons (gName 5) (gCons (gName 6) gNil)))) (tt := _) rfl nd (pi_list (pv 2)) (blkOk_by (N := nLawPartings) (sc := defScope sLawPartings) (by decide +kernel)) (fun _ _ _ _ _ => pg_tup (by rfl) (pgs_cons (pg_name (i := 5) nd rfl (Or.inl rfl)) (pgs_cons (pg_name (i := 6) nd rfl (Or.inl rfl)) pgs_nil))) (fun _ _ _ _ _ => pts_one (pt_cmpR op_eq (pv 6) (pe_callB call_len_str (by rfl) T.len bt_len (pa_cons (pv 0) pa_nil)) (nomark _))) (fun _ _ _ _ _ => (pv 5))) pa_nil)))))), ?_⟩
    have hl : (tx f).length ≤ sizeLine := txl (by omega)
    refine ⟨by show 0 ≤ sizeLine; decide, fun t0 ht0 => ⟨by show 2 ≤ sizeLine; decide, fun a0 ha0 => ⟨by show 1 ≤ sizeLine; decide, fun A0 hA0 => ?_⟩⟩⟩
    have nat : t0 ≠ a0 := fun e => by rw [← e, upd_same] at ha0; cases ha0
    have s0 : Same H (upd (upd (upd H t0 (.tup [])) a0 (.tup [.ref t0, .int 0])) A0 (.lst [.ref a0])) :=
      same_new (same_new (same_upd ht0) ((same_upd ht0).free ha0)) ((same_new (same_upd ht0) ((same_upd ht0).free ha0)).free hA0)
    have c0 : TrAll (upd (upd (upd H t0 (.tup [])) a0 (.tup [.ref t0, .int 0])) A0 (.lst [.ref a0])) f.length 0 [⟨a0, t0, [], 0⟩] := by
      refine ⟨fun x hx => ?_, fun x hx => ?_, fun x hx => ?_, fun x hx => ?_⟩ <;> (rw [List.mem_singleton] at hx; subst hx)
      · exact ⟨upd_new upd_same hA0, upd_new (upd_new upd_same ha0) hA0⟩
      · exact Nat.zero_le _
      · rfl
      · intro y hy
        simp at hy
    have hA1 : (upd (upd (upd H t0 (.tup [])) a0 (.tup [.ref t0, .int 0])) A0 (.lst [.ref a0])) A0 = some (.lst (trs [⟨a0, t0, [], 0⟩])) := upd_same
    generalize upd (upd (upd H t0 (.tup [])) a0 (.tup [.ref t0, .int 0])) A0 (.lst [.ref a0]) = H0 at s0 c0 hA1
    refine ⟨_, rfl, _, rfl, for_it walk_tx (fun i σ H1 => ∃ A L b c d e p, σ = [some (txV f), some (txV g), some (.ref A), b, c, d, e, p] ∧ Same H H1 ∧ H1 A = some (.lst (trs L)) ∧ TrAll H1 f.length i L ∧ cnt (g.drop i) f L = Rg.cw g f ∧ pot f.length L ≤ 256) ⟨A0, _, none, none, none, none, none, rfl, s0, hA1, c0, ?_, ?_⟩ (fun _ _ _ _ _ => trivial) ?_ ?_⟩
    · simp [cnt]
    · simp [pot]
      have : 2 ^ f.length ≤ 2 ^ 8 := Nat.pow_le_pow_right (by decide) h1
      omega
    · rintro i x σ H1 H2 hi ⟨A, L, b, c, d, e, p, rfl, s1, hA, tA, hc, hp⟩ ⟨rfl, c1, hc1, rfl⟩
      have eg : g.drop i = c1 :: g.drop (i + 1) := by
        have := (List.getElem?_eq_some_iff.mp hc1).2
        rw [List.drop_eq_getElem_cons hi, this]
      refine ⟨by show 0 ≤ sizeLine; decide, fun B hB => ?_⟩
      have nAB : A ≠ B := ne_of_none hA hB
      have hA2 := upd_new (o := .lst []) hA hB
      have tA2 := tA.same (same_upd (o := .lst []) hB)
      have s2 : Same H (upd H2 B (.lst [])) := same_new s1 (s1.free hB)
      have nHB : H B = none := s1.free hB
      have hB2 : (upd H2 B (.lst [])) B = some (.lst (trs [])) := upd_same
      generalize upd H2 B (.lst []) = H3 at hA2 tA2 s2 hB2
      refine ⟨_, rfl, A, rfl, ⟨_, .of hA2⟩, ?_⟩
      refine for_it walk_list (fun k σ H4 => ∃ L' d e p, σ = [some (txV f), some (txV g), some (.ref A), some (txV [c1]), some (.ref B), d, e, p] ∧ Same H H4 ∧ H4 A = some (.lst (trs L)) ∧ TrAll H4 f.length i L ∧ H4 B = some (.lst (trs L')) ∧ TrAll H4 f.length (i + 1) L' ∧
        cnt (g.drop (i + 1)) f L' = cnt (g.drop i) f (L.take k) ∧ pot f.length L' ≤ pot f.length (L.take k)) ⟨[], d, e, p, rfl, s2, hA2, tA2, hB2, ⟨by simp, by simp, by simp, by simp⟩, by simp [cnt], by simp [pot]⟩ (fun _ _ _ _ ⟨_, _, _, _, _, _, z, _⟩ => .of z) ?_ ?_
      · rintro m x σ H5 H4 hm ⟨L', d, e, p, rfl, s4, hA4, tA4, hB4, tB4, cB, pB⟩ ⟨rfl, hx⟩
        obtain ⟨tr, htr, rfl⟩ := at_map (F := fun x : Tr => V.ref x.a) hx
        have hmem : tr ∈ L := List.mem_of_getElem? htr
        obtain ⟨k1, k2⟩ := tA4.ok tr hmem
        have k3 := tA4.le tr hmem
        have k4 := tA4.len tr hmem
        have k5 := tA4.sm tr hmem
        refine ⟨tr.a, _, rfl, .of k1, rfl, _, _, rfl, _, _, rfl, rfl, ?_⟩
        refine ⟨_, rfl, _, rfl, _, rfl, hl, _, _, rfl, rfl, _, rfl, iteB (fun e1 => ?_) fun e1 => ?_⟩
        · have e1 := of_decide_eq_true e1
          rw [tx_len] at e1
          have e1 : tr.start < f.length := by omega
          refine ⟨_, rfl, _, rfl, _, _, _, rfl, rfl, hl, atN rfl (List.getElem?_eq_getElem e1), _, rfl, rfl, _, rfl, iteB (fun e2 => ?_) fun e2 => ?_⟩
          · have e2 := of_decide_eq_true (sign_eqV _ _ ▸ e2)
            have ea : f[tr.start]? = some c1 := by rw [List.getElem?_eq_getElem e1, e2]
            refine ⟨_, rfl, _, rfl, _, rfl, hl, _, _, rfl, ?_, ?_⟩
            · rw [tx_len]; omega
            have en : (((tx f).length : Int) - (tr.start : Int)).toNat = f.length - tr.start := by rw [tx_len]; omega
            rw [en]
            have ptk := pot_take (n := f.length) htr
            have pmo := pot_mono f.length L (m + 1)
            refine for_it walk_range (fun q σ H6 => ∃ L2 p, σ = [some (txV f), some (txV g), some (.ref A), some (txV [c1]), some (.ref B), some (.ref tr.t), some (nV tr.start), p] ∧ Same H H6 ∧ H6 A = some (.lst (trs L)) ∧ TrAll H6 f.length i L ∧ H6 B = some (.lst (trs L2)) ∧ TrAll H6 f.length (i + 1) L2 ∧
              cnt (g.drop (i + 1)) f L2 + Rg.cb c1 (g.drop (i + 1)) (f.drop (tr.start + q)) = cnt (g.drop (i + 1)) f L' + Rg.cb c1 (g.drop (i + 1)) (f.drop tr.start) ∧ pot f.length L2 + 2 ^ (f.length - (tr.start + q)) ≤ pot f.length L' + 2 ^ (f.length - tr.start))
              ⟨L', p, rfl, s4, hA4, tA4, hB4, tB4, rfl, Nat.le_refl _⟩ (fun _ _ _ _ _ => trivial) ?_ ?_
            · rintro q x σ H7 H6 hq ⟨L2, p, rfl, s6, hA6, tA6, hB6, tB6, cq, pq⟩ ⟨rfl, ex⟩
              have ex := int_eq ex (show (tr.start : Int) + (q : Int) = ((tr.start + q : Nat) : Int) by omega)
              subst ex
              have hpl : tr.start + q < f.length := by omega
              have e3 : f.length - (tr.start + q) = f.length - (tr.start + (q + 1)) + 1 := by omega
              rw [e3, Nat.pow_succ] at pq
              have e4 : tr.start + q + 1 = tr.start + (q + 1) := by omega
              refine ⟨_, rfl, _, rfl, _, _, _, rfl, rfl, hl, atN rfl (List.getElem?_eq_getElem hpl), _, rfl, rfl, _, rfl, iteB (fun e5 => ?_) fun e5 => ?_⟩
              · have e5 := of_decide_eq_true (sign_eqV _ _ ▸ e5)
                have eb : f[tr.start + q]? = some c1 := by rw [List.getElem?_eq_getElem hpl, e5]
                rw [Rg.cb_drop_yes eb, e4] at cq
                refine ⟨_, rfl, .inl ⟨rfl, _, .of hB6⟩, _, rfl, _, rfl, by show 1 ≤ sizeLine; decide, fun Tp hTp => ?_⟩
                obtain ⟨k1', k2'⟩ := tA6.ok tr hmem
                have k2p := upd_new (o := .tup [nV (tr.start + q)]) k2' hTp
                have hTp1 : (upd H6 Tp (.tup [nV (tr.start + q)])) Tp = some (.tup [nV (tr.start + q)]) := upd_same
                have sp : Same H6 (upd H6 Tp (.tup [nV (tr.start + q)])) := same_upd hTp
                generalize upd H6 Tp (.tup [nV (tr.start + q)]) = H8 at k2p hTp1 sp
                have small : (trs L2).length < sizeLine := by
                  have := pot_len f.length L2
                  exact lt_line (by rw [trs_len]; omega)
                -- what is left, the tuple told + (place,) at t
                have step : ∀ (H9 : Hp) (t q2 : Addr), Same H6 H9 → H9 t = some (.tup ((tr.told ++ [tr.start + q]).map nV)) → H9 q2 = none →
                    (upd H9 q2 (.tup [.ref t, nV (tr.start + (q + 1))])) B = some (.lst (trs L2)) ∧
                    Same H (upd (upd H9 q2 (.tup [.ref t, nV (tr.start + (q + 1))])) B (.lst (trs L2 ++ [.ref q2]))) ∧
                    (upd (upd H9 q2 (.tup [.ref t, nV (tr.start + (q + 1))])) B (.lst (trs L2 ++ [.ref q2]))) A = some (.lst (trs L)) ∧
                    TrAll (upd (upd H9 q2 (.tup [.ref t, nV (tr.start + (q + 1))])) B (.lst (trs L2 ++ [.ref q2]))) f.length i L ∧
                    TrAll (upd (upd H9 q2 (.tup [.ref t, nV (tr.start + (q + 1))])) B (.lst (trs L2 ++ [.ref q2]))) f.length (i + 1) (L2 ++ [⟨q2, t, tr.told ++ [tr.start + q], tr.start + (q + 1)⟩]) := fun H9 t q2 s9 ht hq2 => by
                  have sa : Same H6 (upd H9 q2 (.tup [.ref t, nV (tr.start + (q + 1))])) := s9.trans (same_upd hq2)
                  have hB' := sa _ _ hB6
                  refine ⟨hB', same_new (s6.trans sa) nHB, ?_, (tA6.same sa).store hB', ?_⟩
                  · rw [upd_ne nAB]
                    exact sa _ _ hA6
                  · refine ((tB6.same sa).store hB').snoc ?_ ?_ ?_ ?_
                    · exact TrOk.store (x := ⟨q2, t, tr.told ++ [tr.start + q], tr.start + (q + 1)⟩) ⟨upd_same, upd_new ht hq2⟩ hB'
                    · show tr.start + (q + 1) ≤ f.length
                      omega
                    · show (tr.told ++ [tr.start + q]).length = i + 1
                      rw [List.length_append, k4]
                      rfl
                    · intro y hy
                      rcases List.mem_append.mp (show y ∈ tr.told ++ [tr.start + q] from hy) with z | z
                      · exact k5 y z
                      · rw [List.mem_singleton] at z
                        omega
                have tail : cnt (g.drop (i + 1)) f L2 + Rg.cw (g.drop (i + 1)) (f.drop (tr.start + (q + 1))) + Rg.cb c1 (g.drop (i + 1)) (f.drop (tr.start + (q + 1))) = cnt (g.drop (i + 1)) f L' + Rg.cb c1 (g.drop (i + 1)) (f.drop tr.start) ∧
                    pot f.length L2 + 2 ^ (f.length - (tr.start + (q + 1))) + 2 ^ (f.length - (tr.start + (q + 1))) ≤ pot f.length L' + 2 ^ (f.length - tr.start) := by
                  constructor <;> omega
                refine ⟨tr.t, Tp, _, _, rfl, rfl, .of k2p, .of hTp1, ?_, fun hxs => ?_, fun _ z => (by cases z), fun hxs _ q1 hq1 => ?_⟩
                · rw [List.length_map, k4]
                  exact small_line (by show i + 1 ≤ 1000; omega)
                · have etold : tr.told = [] := by simpa using hxs
                  have ht : H8 Tp = some (.tup ((tr.told ++ [tr.start + q]).map nV)) := by rw [hTp1, etold]; rfl
                  refine ⟨_, rfl, _, _, rfl, rfl, by show 2 ≤ sizeLine; decide, fun q2 hq2 => ?_⟩
                  obtain ⟨z1, z2, z3, z4, z5⟩ := step H8 Tp q2 sp ht hq2
                  refine ⟨B, _, _, rfl, rfl, z1, small, L2 ++ [(⟨q2, Tp, tr.told ++ [tr.start + q], tr.start + (q + 1)⟩ : Tr)], _, rfl, z2, z3, z4, ?_, z5, ?_, ?_⟩
                  · rw [trs_snoc]; exact upd_same
                  · rw [cnt_snoc]; exact tail.1
                  · rw [pot_snoc]; exact tail.2
                · have ht : (upd H8 q1 (.tup (tr.told.map nV ++ [nV (tr.start + q)]))) q1 = some (.tup ((tr.told ++ [tr.start + q]).map nV)) := by rw [upd_same, List.map_append]; rfl
                  refine ⟨_, rfl, _, _, rfl, rfl, by show 2 ≤ sizeLine; decide, fun q2 hq2 => ?_⟩
                  obtain ⟨z1, z2, z3, z4, z5⟩ := step _ q1 q2 (sp.trans (same_upd hq1)) ht hq2
                  refine ⟨B, _, _, rfl, rfl, z1, small, L2 ++ [(⟨q2, q1, tr.told ++ [tr.start + q], tr.start + (q + 1)⟩ : Tr)], _, rfl, z2, z3, z4, ?_, z5, ?_, ?_⟩
                  · rw [trs_snoc]; exact upd_same
                  · rw [cnt_snoc]; exact tail.1
                  · rw [pot_snoc]; exact tail.2
              · have e5 := of_decide_eq_false (sign_eqV _ _ ▸ e5)
                have eb : f[tr.start + q]? ≠ some c1 := by
                  rw [List.getElem?_eq_getElem hpl]
                  intro z
                  exact e5 (Option.some.inj z)
                rw [Rg.cb_drop_no hpl eb, e4] at cq
                exact ⟨L2, _, rfl, s6, hA6, tA6, hB6, tB6, cq, by omega⟩
            · rintro σ H6 ⟨L2, p, rfl, s6, hA6, tA6, hB6, tB6, cq, pq⟩
              have e3 : tr.start + (f.length - tr.start) = f.length := by omega
              rw [e3, List.drop_length, Rg.cb_nil] at cq
              refine ⟨L2, _, _, _, rfl, s6, hA6, tA6, hB6, tB6, ?_, Nat.le_trans (Nat.le_add_right _ _) (Nat.le_trans pq (by rw [ptk]; exact Nat.add_le_add_right pB _))⟩
              rw [cnt_take htr, eg, Rg.cw_drop_yes ea, ← eg]
              omega
          · have e2 := of_decide_eq_false (sign_eqV _ _ ▸ e2)
            have ea : f[tr.start]? ≠ some c1 := by
              rw [List.getElem?_eq_getElem e1]
              intro z
              exact e2 (Option.some.inj z)
            have ptk := pot_take (n := f.length) htr
            refine ⟨L', _, _, _, rfl, s4, hA4, tA4, hB4, tB4, ?_, by rw [ptk]; exact Nat.le_trans pB (Nat.le_add_right _ _)⟩
            rw [cnt_take htr, eg, Rg.cw_drop_no ea, ← eg]
            omega
        · have e1 := of_decide_eq_false e1
          rw [tx_len] at e1
          have ea : f[tr.start]? ≠ some c1 := by
            rw [List.getElem?_eq_none (by omega)]
            intro z
            cases z
          have ptk := pot_take (n := f.length) htr
          refine iteF ⟨L', _, _, _, rfl, s4, hA4, tA4, hB4, tB4, ?_, by rw [ptk]; exact Nat.le_trans pB (Nat.le_add_right _ _)⟩
          rw [cnt_take htr, eg, Rg.cw_drop_no ea, ← eg]
          omega
      · rintro σ H4 ⟨L', d, e, p, rfl, s4, hA4, tA4, hB4, tB4, cB, pB⟩
        rw [trs_len, List.take_length] at cB pB
        exact ⟨_, rfl, B, L', _, _, _, _, _, rfl, s4, hB4, tB4, by rw [cB]; exact hc, by omega⟩
    · rintro σ H1 ⟨A, L, b, c, d, e, p, rfl, s1, hA, tA, hc, hp⟩
      rw [List.drop_length] at hc
      have hcf := cnt_done tA.le
      rw [hc] at hcf
      refine ⟨_, rfl, A, rfl, ⟨_, .of hA⟩, fun D hD => ?_⟩
      refine lc_it walk_list (PvL D H1 (filT (fun x : Tr => decide (x.start = f.length)) (fun x => .ref x.t) L)) (PvL.start hD rfl) (fun _ _ _ p => p.same.seq (.of hA)) ?_ ?_
      · rintro m x H0 H4 hm p4 ⟨rfl, hx⟩
        obtain ⟨tr, htr, rfl⟩ := at_map (F := fun x : Tr => V.ref x.a) hx
        have hmem : tr ∈ L := List.mem_of_getElem? htr
        obtain ⟨k1, k2⟩ := (tA.same p4.same).ok tr hmem
        have hL := pot_len f.length L
        refine ⟨tr.a, _, rfl, .of k1, rfl, _, _, rfl, _, _, rfl, rfl, rfl, _, rfl, _, rfl, _, rfl, hl, rfl, _, rfl, iteB (fun e => ?_) fun e => ?_⟩
        · have e := V.int.inj (of_decide_eq_true e)
          rw [tx_len] at e
          exact ⟨_, rfl, _, p4.at_, lt_line (Nat.le_trans (filT_len _ _ _ _) (by omega)), PvL.push hD p4.same (filT_yes (F := fun x : Tr => V.ref x.t) htr (decide_eq_true (by omega)))⟩
        · have e := of_decide_eq_false e
          refine p4.skip (filT_no htr (decide_eq_false fun q => e ?_))
          rw [tx_len, q]
      · intro H4 p4
        have hL4 : H4 D = some (.lst ((L.filter fun x => decide (x.start = f.length)).map fun x => V.ref x.t)) := by
          rw [p4.at_, trs_len, filT_all]
        have tA4 := tA.same p4.same
        have sm := Rg.cw_small (g := g) (f := f) h2 h1
        refine ⟨D, _, rfl, .of hL4, by rw [List.length_map, ← hcf]; exact sm, fun x hx => ?_, fun ys p hys _ np => ?_⟩
        · obtain ⟨tr, ht, rfl⟩ := List.mem_map.mp hx
          have hmem := (List.mem_filter.mp ht).1
          refine ⟨List.map (fun n : Nat => (n : Int)) tr.told, ⟨tr.t, rfl, .of ?_⟩, ?_, ?_⟩
          · rw [(tA4.ok tr hmem).2]
            simp [List.map_map, Function.comp_def]
          · rw [List.length_map, tA4.len tr hmem, ← hgl]
          · intro i hi
            obtain ⟨n, hn, rfl⟩ := List.mem_map.mp hi
            have := tA4.sm tr hmem n hn
            omega
        · refine k p ys _ (same_new (s1.trans p4.same) ((s1.trans p4.same).free np)) upd_same ?_
          rw [hys.length_eq, List.length_map, ← hcf]
end
end G
set_option linter.all false
/-! The plain law, part 8: what can be reached, and how many that are at most. -/
namespace Rg
def Reach (a g : W) : Prop := ∃ k, Steps k a g
theorem Reach.refl (a : W) : Reach a a := ⟨0, .zero a⟩
theorem Reach.next {a g h : W} (r : Reach a g) (m : h ∈ rn g) : Reach a h := by
  obtain ⟨k, s⟩ := r
  exact ⟨k + 1, .succ s m⟩
/-- what holds a and is closed holds all -/
theorem reach_closed {a : W} {L : W → Prop} (h0 : L a) (hc : ∀ x, L x → ∀ y ∈ rn x, L y) {g : W} (r : Reach a g) : L g := by
  obtain ⟨k, s⟩ := r
  induction s with
  | zero => exact h0
  | succ s m ih => exact hc _ (ih h0) _ m
/-! ### parts of a turn -/
def Sub (f g : W) : Prop := ∃ F, Sim f F ∧ g.Sublist F
theorem Sub.refl (f : W) : Sub f f := ⟨f, Sim.refl f, List.Sublist.refl f⟩
theorem Sub.sim {f g h : W} (s : Sub f g) (t : Sim g h) : Sub f h := by
  obtain ⟨F, a, b⟩ := s
  obtain ⟨p, q, rfl, rfl⟩ := t
  obtain ⟨r1, r2, rfl, h1, h2⟩ := List.append_sublist_iff.mp b
  exact ⟨r2 ++ r1, a.trans ⟨r1, r2, rfl, rfl⟩, h2.append h1⟩
theorem Sub.sub {f g h : W} (s : Sub f g) (t : h.Sublist g) : Sub f h := by
  obtain ⟨F, a, b⟩ := s
  exact ⟨F, a, t.trans b⟩
theorem Sub.cut {f g h : W} (s : Sub f g) (c : Cut g h) : Sub f h := by
  obtain ⟨x, u, v, a, b⟩ := c
  refine ((s.sim a).sub ?_).sim b
  refine List.Sublist.cons₂ x ?_
  exact ((List.Sublist.refl v).cons x).trans (List.sublist_append_right u (x :: v))
theorem sub_of_reach {a g : W} (ha : a ≠ []) (r : Reach a g) : Sub a g := by
  obtain ⟨k, s⟩ := r
  induction s with
  | zero => exact Sub.refl _
  | succ s m ih =>
    obtain ⟨hg, _⟩ := s.good ha
    obtain ⟨h, c, rfl⟩ := (mem_rn hg).mp m
    have hh : h ≠ [] := by
      intro e
      have := c.len
      rw [e] at this
      simp at this
    exact ((ih ha).cut c).sim (lturn_sim hh)
/-- all parts of a word -/
def subs : W → List W
  | [] => [[]]
  | x :: l => subs l ++ (subs l).map (x :: ·)
theorem subs_len : ∀ l : W, (subs l).length = 2 ^ l.length
  | [] => rfl
  | x :: l => by
    have ih := subs_len l
    simp [subs, ih, Nat.pow_succ]
    omega
theorem mem_subs : ∀ {l g : W}, g.Sublist l → g ∈ subs l
  | [], g, h => by
    have := List.sublist_nil.mp h
    simp [subs, this]
  | x :: l, g, h => by
    cases h with
    | cons _ h => exact List.mem_append_left _ (mem_subs h)
    | cons_cons _ h => exact List.mem_append_right _ (List.mem_map_of_mem (mem_subs h))
def univ (f : W) : List W := (rots f).flatMap subs
theorem univ_len {f : W} (h : f.length ≤ 8) : (univ f).length ≤ 2048 := by
  unfold univ
  rw [List.length_flatMap]
  have e : ((rots f).map fun a => (subs a).length) = List.replicate f.length (2 ^ f.length) := by
    unfold rots
    rw [List.map_map]
    refine List.eq_replicate_iff.mpr ⟨by simp, fun b hb => ?_⟩
    obtain ⟨i, _, rfl⟩ := List.mem_map.mp hb
    show (subs (rot f i)).length = _
    rw [subs_len, rot_len]
  rw [e, List.sum_replicate_nat]
  have h1 : 2 ^ f.length ≤ 2 ^ 8 := Nat.pow_le_pow_right (by decide) h
  exact Nat.le_trans (Nat.mul_le_mul h h1) (by decide)
theorem reach_few {a : W} (ha : a ≠ []) (h8 : a.length ≤ 8) {l : List W} (hn : l.Nodup) (h : ∀ x ∈ l, Reach a x) : l.length ≤ 2048 := by
  refine Nat.le_trans (pigeon l (univ a) hn fun x hx => ?_) (univ_len h8)
  obtain ⟨F, s, t⟩ := sub_of_reach ha (h x hx)
  exact List.mem_flatMap.mpr ⟨F, (mem_rots ha).mpr s, mem_subs t⟩
theorem Reach.good {a g : W} (ha : a ≠ []) (r : Reach a g) : g ≠ [] ∧ g.length ≤ a.length ∧ ∀ y ∈ g, y ∈ a := by
  obtain ⟨k, s⟩ := r
  obtain ⟨h1, h2, h3, _⟩ := s.good ha
  exact ⟨h1, by omega, h3⟩
end Rg
set_option Elab.async false
set_option linter.all false
set_option maxRecDepth 100000
set_option maxHeartbeats 8000000
namespace G
open PySem PySem.Spec PyProof.Rows L2
open Rg (W)
abbrev nRingOutcomes : List Str := ["film", "start", "known", "edge", "told"]
theorem scRingOutcomes : FnScope nRingOutcomes ["film"] (defScope sRingOutcomes) := ⟨rfl, rfl, rfl, by decide +kernel, rfl, by decide +kernel, by decide +kernel⟩
def spOutcomes : Sp := fun vs H Q _ => ∃ f : W, vs = [txV f] ∧ Film f ∧ ∀ (ys : List W) (p : Addr) (H' : Hp), Rg.IsSrt ys (Rg.Reach (Rg.lturn f)) → Same H H' → H p = none → H' p = some (.lst (ys.map txV)) → Q (.ref p) H'
theorem lt_line' {n : Nat} (h : n ≤ 100000) : n < sizeLine := Nat.lt_of_le_of_lt h (by decide)
theorem ok3_film {K : PySem.W.Frag} {H : Hp} {f : W} (h : ∀ c ∈ f, c ≤ 104) : Ok3 K H (txV f) := by
  refine ⟨_, .str (tx f), ?_, by simp [PyData.depth]⟩
  have : PyData.canLay0 (.str (tx f)) = (tx f).cps.all (· < 0x110000) := by simp [PyData.canLay0, PyData.strOk]
  rw [this]
  simp only [tx, List.all_toArray]
  rw [List.all_eq_true]
  intro c hc
  have := h c hc
  exact decide_eq_true (by omega)
/-- what the loop knows: the names met l, those still to be cut es -/
structure Dfs (N : W) (l es : List W) : Prop where
  nl : l.Nodup
  start : N ∈ l
  reach : ∀ x ∈ l, Rg.Reach N x
  ne : es.Nodup
  sub : ∀ x ∈ es, x ∈ l
section
variable {P : Program} {w : World} {K : PySem.W.Frag} {mg : Str → Option Value} {base : Heap} {f : Addr} {fd : FuncData}
theorem ok_ring_outcomes (F : FnP K "ring_outcomes" sRingOutcomes f fd) (T : Fr mg) (Dneed_film : Df P w K mg base "need_film" ["value"] 1 spNeedFilm) (Dneed_short : Df P w K mg base "need_short" ["film", "most"] 1 spNeedShort)
    (Dleast_turn : Df P w K mg base "least_turn" ["film"] 2 spTurn) (Dring_next_of : Df P w K mg base "ring_next_of" ["film"] 3 spNext) : FnOk P w K mg base CX0 4 f fd ["film"] spOutcomes := by
  refine F.ok scRingOutcomes (fun vs H Q E h => ?_) (fun cdv A outer s H vs Q E hr h => ?_)
  · obtain ⟨f, rfl, _⟩ := h
    rfl
  · obtain ⟨f, rfl, hf, k⟩ := h
    have hu := hu_of hr
    have nd := scRingOutcomes.nd
    refine ⟨_, PSs.nox (pss_cons (ps_expr (Dneed_film.call (hr.mono (by decide)) (by rfl) (pa_cons (pv 0) pa_nil)))
      (pss_cons (ps_expr (Dneed_short.call (hr.mono (by decide)) (by rfl) (pa_cons (pv 0) (pa_cons (pe_globE rfl T.cMOST_LISTED) pa_nil))))
      (pss_cons (ps_set (i := 1) nd rfl (Or.inl rfl) (Dleast_turn.call (hr.mono (by decide)) (by rfl) (pa_cons (pv 0) pa_nil)))
      (pss_cons (ps_par (i := 2) (j := 3) (by rfl) nd rfl rfl (by decide) rfl rfl (pa_cons (pe_disp (pps_cons (pv 1) pe_bl pps_nil) (by rfl) (by rfl) (fun z => by cases z) (by decide)) (pa_cons (pe_lst (pa_cons (pv 1) pa_nil)) pa_nil)) (by rfl))
      (pss_cons (ps_while PassesOwn.never (pt_cmpR (op_neD hr.units) (pv 3) (pe_lst pa_nil) (nomark _)) (pss_one (ps_for PassesOwn.never rfl (pi_list (Dring_next_of.call (hr.mono (by decide)) (by rfl) (pa_cons (pe_bm0 PySem.F.plainAttrs_list PySem.F.slot_list_pop PySem.F.type_list_pop mt_pop (pv 3)) pa_nil))) (pg_name (i := 4) nd rfl (Or.inl rfl)) (pss_one (ps_if (pt_cmp (pc_dnotin hu (pv 4) (pv 2))) (pss_cons (ps_dput hu (pv 2) (pv 4) pe_bl rfl)
      (pss_one (ps_expr (pe_bm PySem.F.plainAttrs_list PySem.F.slot_list_append PySem.F.type_list_append mt_append (pv 3) (pa_cons (pv 4) pa_nil))))) pss_nil)))))
      (pss_one (ps_ret (pe_callB (cr_sortedDA rfl) (by rfl) T.sorted bt_sorted (pa_cons (pv 2) pa_nil))))))))), ?_⟩
    have h8 := hf.len
    refine ⟨_, rfl, f, rfl, hf, fun H1 s1 => ⟨_, rfl, f, 12, rfl, by omega, h8, ⟨_, rfl, f, rfl, hf.ne, by omega, fun H2 s2 => ?_⟩⟩⟩
    have hN : Rg.lturn f ≠ [] := Rg.lturn_ne hf.ne
    have hN8 : (Rg.lturn f).length ≤ 8 := by rw [Rg.lturn_len hf.ne]; exact h8
    have hNc : ∀ c ∈ Rg.lturn f, c ≤ 104 := fun c hc => (hf.ok c (((Rg.lturn_sim hf.ne).mem c).mpr hc)).2
    generalize hNN : Rg.lturn f = N at hN hN8 hNc
    rw [hNN] at k
    have good : ∀ x, Rg.Reach N x → x ≠ [] ∧ x.length ≤ 8 ∧ ∀ c ∈ x, c ≤ 104 := fun x hx => by
      obtain ⟨g1, g2, g3⟩ := hx.good hN
      exact ⟨g1, by omega, fun c hc => hNc c (g3 c hc)⟩
    have s12 := s1.trans s2
    intro d hd
    refine ⟨_, rfl, upd_same, [(Sum.inr (tx N), .bl true)], rfl, by show 1 ≤ 15; decide, _, rfl, by show 1 ≤ sizeLine; decide, fun e he => ⟨_, _, rfl, ?_⟩⟩
    have hd0 : (upd (upd (upd H2 d (.dK [])) d (.dK (mergeK [] [(Sum.inr (tx N), .bl true)]))) e (.lst [txV N])) d = some (.dK (kd [N] (.bl true))) := upd_new upd_same he
    have he0 : (upd (upd (upd H2 d (.dK [])) d (.dK (mergeK [] [(Sum.inr (tx N), .bl true)]))) e (.lst [txV N])) e = some (.lst ([N].map txV)) := upd_same
    have nHd : H d = none := s12.free hd
    have s3 : Same H (upd (upd H2 d (.dK [])) d (.dK (mergeK [] [(Sum.inr (tx N), .bl true)]))) := same_new (same_new s12 nHd) nHd
    have nHe : H e = none := s3.free he
    have s4 : Same H (upd (upd (upd H2 d (.dK [])) d (.dK (mergeK [] [(Sum.inr (tx N), .bl true)]))) e (.lst [txV N])) := same_new s3 nHe
    generalize upd (upd (upd H2 d (.dK [])) d (.dK (mergeK [] [(Sum.inr (tx N), .bl true)]))) e (.lst [txV N]) = H3 at hd0 he0 s4
    refine ⟨fun m σ H4 => ∃ l es b, σ = [some (txV f), some (txV N), some (.ref d), some (.ref e), b] ∧ Same H H4 ∧ H4 d = some (.dK (kd l (.bl true))) ∧ H4 e = some (.lst (es.map txV)) ∧ Dfs N l es ∧ (∀ x ∈ l, x ∉ es → ∀ y ∈ Rg.rn x, y ∈ l) ∧ m = 2 * (2048 - l.length) + es.length,
      ⟨_, [N], [N], none, rfl, s4, hd0, he0, ⟨by simp, by simp, fun x hx => by rw [List.mem_singleton] at hx; rw [hx]; exact Rg.Reach.refl N, by simp, fun x hx => hx⟩, fun x hx hn => absurd hx hn, rfl⟩, ?_⟩
    rintro m σ H4 ⟨l, es, b, rfl, s5, hd5, he5, D, cl, em⟩
    refine ⟨_, rfl, by show 0 ≤ sizeLine; decide, fun Z hZ => neNil (.of (upd_new he5 hZ)) (.of upd_same) (fun v hv => ?_) ⟨_, rfl, ?_⟩⟩
    · obtain ⟨x, hx, rfl⟩ := List.mem_map.mp hv
      exact ok3_film (good x (D.reach x (D.sub x hx))).2.2
    have hd6 := upd_new (o := .lst []) hd5 hZ
    have he6 := upd_new (o := .lst []) he5 hZ
    have s6 : Same H (upd H4 Z (.lst [])) := same_new s5 (s5.free hZ)
    generalize upd H4 Z (.lst []) = H5 at hd6 he6 s6
    refine iteB (fun eb => ?_) fun eb => ?_
    · -- one is taken off
      obtain ⟨es', x, exs⟩ := (List.eq_nil_or_concat es).resolve_left (fun z => by rw [z] at eb; simp at eb)
      rw [List.concat_eq_append] at exs
      subst exs
      have hxl : x ∈ l := D.sub x (by simp)
      obtain ⟨x1, x2, x3⟩ := good x (D.reach x hxl)
      obtain ⟨n1, n2, n3⟩ := List.nodup_append.mp D.ne
      have hlen := List.length_append (as := es') (bs := [x])
      rw [List.length_singleton] at hlen
      have few : ∀ l' : List W, l'.Nodup → (∀ y ∈ l', Rg.Reach N y) → l'.length ≤ 2048 := fun l' a b => Rg.reach_few hN hN8 a b
      refine ⟨fun σ' H' => ∃ m', m' < m ∧ ∃ l es b, σ' = [some (txV f), some (txV N), some (.ref d), some (.ref e), b] ∧ Same H H' ∧ H' d = some (.dK (kd l (.bl true))) ∧ H' e = some (.lst (es.map txV)) ∧ Dfs N l es ∧ (∀ x ∈ l, x ∉ es → ∀ y ∈ Rg.rn x, y ∈ l) ∧ m' = 2 * (2048 - l.length) + es.length, fun _ _ z => z, ?_⟩
      have hgl : ((es' ++ [x]).map txV)[((es' ++ [x]).map txV).length - 1]? = some (txV x) := by
        rw [List.length_map, hlen, List.getElem?_map]
        simp
      refine ⟨_, rfl, .inl ⟨rfl, _, .of he6⟩, e, _, _, rfl, rfl, he6, hgl, ?_⟩
      have edl : ((es' ++ [x]).map txV).dropLast = es'.map txV := by simp
      rw [edl]
      have hde : d ≠ e := ne_of hd6 he6 (by intro z; cases z)
      have hd7 : (upd H5 e (.lst (es'.map txV))) d = some (.dK (kd l (.bl true))) := by rw [upd_ne hde]; exact hd6
      have he7 : (upd H5 e (.lst (es'.map txV))) e = some (.lst (es'.map txV)) := upd_same
      have s7 : Same H (upd H5 e (.lst (es'.map txV))) := same_new s6 nHe
      generalize upd H5 e (.lst (es'.map txV)) = H6 at hd7 he7 s7
      refine ⟨x, rfl, x1, x2, fun ys p H7 hys s8 np hp => ⟨p, rfl, ⟨_, .of hp⟩, ?_⟩⟩
      have npe : p ≠ e := Ne.symm (ne_of_none he7 np)
      have npd : p ≠ d := Ne.symm (ne_of_none hd7 np)
      refine for_it walk_list (fun i σ H8 => ∃ l' es2 b, σ = [some (txV f), some (txV N), some (.ref d), some (.ref e), b] ∧ Same H H8 ∧ H8 d = some (.dK (kd l' (.bl true))) ∧ H8 e = some (.lst (es2.map txV)) ∧ H8 p = some (.lst (ys.map txV)) ∧ Dfs N l' es2 ∧ (∀ z ∈ l', z ∉ es2 → z ≠ x → ∀ y ∈ Rg.rn z, y ∈ l') ∧ (∀ y ∈ ys.take i, y ∈ l') ∧ x ∈ l' ∧ 2 * (2048 - l'.length) + es2.length ≤ 2 * (2048 - l.length) + es'.length)
        ⟨l, es', b, rfl, s7.trans s8, s8 _ _ hd7, s8 _ _ he7, hp, ⟨D.nl, D.start, D.reach, n1, fun y hy => D.sub y (List.mem_append_left _ hy)⟩, fun z hz hn hne => cl z hz (fun q => ?_), by simp, hxl, Nat.le_refl _⟩ (fun _ _ _ _ ⟨_, _, _, _, _, _, _, z, _⟩ => .of z) ?_ ?_
      · rcases List.mem_append.mp q with q | q
        · exact hn q
        · rw [List.mem_singleton] at q
          exact hne q
      · rintro i v σ H9 H8 hi ⟨l', es2, b, rfl, s9, hd9, he9, hp9, D9, c9, t9, x9, m9⟩ ⟨rfl, hx⟩
        obtain ⟨y, hy, rfl⟩ := at_map hx
        have hyr : y ∈ Rg.rn x := (hys.2 y).mp (List.mem_of_getElem? hy)
        have hyR : Rg.Reach N y := (D.reach x hxl).next hyr
        refine ⟨_, rfl, _, rfl, d, _, rfl, DGet.k (k := Sum.inr (tx y)) hd9, _, rfl, ?_⟩
        rw [valV_kd]
        by_cases ey : y ∈ l'
        · rw [if_pos ey]
          refine iteF ⟨l', es2, _, rfl, s9, hd9, he9, hp9, D9, c9, fun z hz => ?_, x9, m9⟩
          rw [take_succ hy] at hz
          rcases List.mem_append.mp hz with q | q
          · exact t9 z q
          · rw [List.mem_singleton] at q
            rw [q]; exact ey
        · rw [if_neg ey]
          refine iteT ?_
          have nl' : (l' ++ [y]).Nodup := List.nodup_append.mpr ⟨D9.nl, by simp, fun a ha b hb e => by rw [List.mem_singleton] at hb; rw [e, hb] at ha; exact ey ha⟩
          have rl' : ∀ z ∈ l' ++ [y], Rg.Reach N z := fun z hz => by
            rcases List.mem_append.mp hz with q | q
            · exact D9.reach z q
            · rw [List.mem_singleton] at q
              rw [q]; exact hyR
          have fw := few _ nl' rl'
          rw [List.length_append, List.length_singleton] at fw
          have el2 : es2.length ≤ l'.length := Rg.pigeon es2 l' D9.ne D9.sub
          have ein : Rg.ins l' y = l' ++ [y] := by unfold Rg.ins; rw [if_neg ey]
          refine ⟨_, rfl, _, rfl, d, _, rfl, DPut.k (k := Sum.inr (tx y)) hd9 (lt_line' (by rw [kd_len]; omega)), ?_⟩
          rw [putK_kd, ein]
          have hd10 : (upd H8 d (.dK (kd (l' ++ [y]) (.bl true)))) d = some (.dK (kd (l' ++ [y]) (.bl true))) := upd_same
          have he10 : (upd H8 d (.dK (kd (l' ++ [y]) (.bl true)))) e = some (.lst (es2.map txV)) := by rw [upd_ne (Ne.symm hde)]; exact he9
          have hp10 : (upd H8 d (.dK (kd (l' ++ [y]) (.bl true)))) p = some (.lst (ys.map txV)) := by rw [upd_ne npd]; exact hp9
          have s10 : Same H (upd H8 d (.dK (kd (l' ++ [y]) (.bl true)))) := same_new s9 nHd
          generalize upd H8 d (.dK (kd (l' ++ [y]) (.bl true))) = H10 at hd10 he10 hp10 s10
          refine ⟨_, rfl, .inl ⟨rfl, _, .of he10⟩, _, rfl, e, _, txV y, rfl, rfl, he10, lt_line' (by rw [List.length_map]; omega), ?_⟩
          refine ⟨l' ++ [y], es2 ++ [y], _, rfl, same_new s10 nHe, ?_, ?_, ?_, ⟨nl', List.mem_append_left _ D9.start, rl', ?_, ?_⟩, fun z hz hn hne => ?_, fun z hz => ?_, List.mem_append_left _ x9, ?_⟩
          · rw [upd_ne hde]; exact hd10
          · rw [upd_same]; simp
          · rw [upd_ne npe]; exact hp10
          · exact List.nodup_append.mpr ⟨D9.ne, by simp, fun a ha b hb e => by rw [List.mem_singleton] at hb; rw [e, hb] at ha; exact ey (D9.sub y ha)⟩
          · intro z hz
            rcases List.mem_append.mp hz with q | q
            · exact List.mem_append_left _ (D9.sub z q)
            · exact List.mem_append_right _ q
          · rcases List.mem_append.mp hz with q | q
            · exact fun u hu => List.mem_append_left _ (c9 z q (fun w => hn (List.mem_append_left _ w)) hne u hu)
            · exact absurd (List.mem_append_right _ q) hn
          · rw [take_succ hy] at hz
            rcases List.mem_append.mp hz with q | q
            · exact List.mem_append_left _ (t9 z q)
            · exact List.mem_append_right _ q
          · rw [List.length_append, List.length_append, List.length_singleton]
            omega
      · rintro σ H9 ⟨l', es2, b, rfl, s9, hd9, he9, hp9, D9, c9, t9, x9, m9⟩
        refine ⟨_, ?_, l', es2, _, rfl, s9, hd9, he9, D9, fun z hz hn => ?_, rfl⟩
        · rw [em, hlen]; omega
        · by_cases ez : z = x
          · subst ez
            intro y hy
            refine t9 y ?_
            rw [List.length_map, List.take_length]
            exact (hys.2 y).mpr hy
          · exact c9 z hz hn ez
    · -- the end
      have ees : es = [] := by
        cases es with
        | nil => rfl
        | cons => simp at eb
      subst ees
      refine ⟨_, rfl, d, _, l.map tx, rfl, .inl hd6, kd_keys _ _, fun ys p hp hs np => ?_⟩
      obtain ⟨zs, rfl, hz⟩ := srt_of D.nl hp hs
      rw [map_txV]
      refine k zs p _ ⟨hz.1, fun x => (hz.2 x).trans ⟨D.reach x, fun r => ?_⟩⟩ (same_new s6 (s6.free np)) (s6.free np) upd_same
      exact Rg.reach_closed D.start (fun z hz y hy => cl z hz (by simp) y hy) r
end
end G
set_option linter.all false
/-! The plain law, part 9: the fewest blocks of a word, layer by layer; the shortest rings. -/
namespace Rg
/-- behind some layers: ed the starts found last (with sz - 1 blocks ahead of them), sn all found, b the best so far -/
structure Lay (now : W) (ed : List Nat) (sz : Nat) (sn : List Nat) (b : Nat) : Prop where
  pos : 1 ≤ sz
  sub : ∀ p ∈ ed, p ∈ sn
  new : ∀ p ∈ ed, p < now.length ∧ Pre now p (sz - 1)
  old : ∀ p ∈ sn, p ∉ ed → p < now.length ∧ ∃ k, k + 1 < sz ∧ Pre now p k
  cl : ∀ p ∈ sn, p ∉ ed → ∀ e, p ≤ e → e + 1 < now.length → now[e]? = now[p]? → e + 1 ∈ sn
  all : ∀ k p, k < sz → p < now.length → Pre now p k → p ∈ sn
  best : ∀ m, m < sz → Pre now now.length m → b ≤ m
theorem lay_start {now : W} (hn : now ≠ []) (b : Nat) : Lay now [0] 1 [0] b := by
  have hl : 0 < now.length := List.length_pos_iff.mpr hn
  refine ⟨Nat.le_refl _, fun p h => h, fun p h => ?_, fun p h h2 => absurd h h2, fun p h h2 => absurd h h2, fun k p hk hp h => ?_, fun m hm h => ?_⟩
  · rw [List.mem_singleton] at h
    subst h
    exact ⟨hl, (pre_zero hn).mpr rfl⟩
  · have : k = 0 := by omega
    subst this
    rw [(pre_zero hn).mp h]
    simp
  · have : m = 0 := by omega
    subst this
    have := (pre_zero hn).mp h
    omega
theorem lay_full {now : W} {ed sn : List Nat} {sz b q : Nat} (hn : now ≠ []) (L : Lay now ed sz sn b) (hq : q ∈ ed) (h : now[q]? = now[now.length - 1]?) : Pre now now.length sz := by
  have hl : 0 < now.length := List.length_pos_iff.mpr hn
  obtain ⟨h1, h2⟩ := L.new q hq
  have e1 : now.length = now.length - 1 + 1 := by omega
  have e2 : sz = sz - 1 + 1 := by have := L.pos; omega
  rw [e1, e2]
  exact (pre_succ (by omega)).mpr ⟨q, by omega, h2, h⟩
theorem lay_step {now : W} {ed sn lt : List Nat} {sz b b' : Nat} (hn : now ≠ []) (L : Lay now ed sz sn b) (hb : sz < b) (hb' : b' = if ∃ q ∈ ed, now[q]? = now[now.length - 1]? then sz else b)
    (h1 : ∀ q ∈ lt, q < now.length ∧ Pre now q sz) (h2 : ∀ p ∈ ed, ∀ e, p ≤ e → e + 1 < now.length → now[e]? = now[p]? → e + 1 ∈ sn ++ lt) : Lay now lt (sz + 1) (sn ++ lt) b' := by
  have hl : 0 < now.length := List.length_pos_iff.mpr hn
  have hp := L.pos
  have hle : b' ≤ b := by rw [hb']; split <;> omega
  refine ⟨by omega, fun p h => List.mem_append_right _ h, fun p h => h1 p h, fun p h hlt => ?_, fun p h hlt e he1 he2 he3 => ?_, fun k p hk hp2 h => ?_, fun m hm h => ?_⟩
  · have hs : p ∈ sn := (List.mem_append.mp h).resolve_right hlt
    by_cases he : p ∈ ed
    · obtain ⟨g1, g2⟩ := L.new p he
      exact ⟨g1, sz - 1, by omega, g2⟩
    · obtain ⟨g1, k, g2, g3⟩ := L.old p hs he
      exact ⟨g1, k, by omega, g3⟩
  · have hs : p ∈ sn := (List.mem_append.mp h).resolve_right hlt
    by_cases he : p ∈ ed
    · exact h2 p he e he1 he2 he3
    · exact List.mem_append_left _ (L.cl p hs he e he1 he2 he3)
  · by_cases ek : k < sz
    · exact List.mem_append_left _ (L.all k p ek hp2 h)
    · have ek : k = sz - 1 + 1 := by omega
      rw [ek] at h
      cases p with
      | zero => exact absurd h pre_zero_succ
      | succ p =>
        obtain ⟨q, g1, g2, g3⟩ := (pre_succ (by omega)).mp h
        have hs : q ∈ sn := L.all (sz - 1) q (by omega) (by omega) g2
        by_cases he : q ∈ ed
        · exact h2 q he p g1 hp2 g3.symm
        · exact List.mem_append_left _ (L.cl q hs he p g1 hp2 g3.symm)
  · by_cases em : m < sz
    · exact Nat.le_trans hle (L.best m em h)
    · have em2 : m = sz := by omega
      subst em2
      have e1 : now.length = now.length - 1 + 1 := by omega
      have e2 : m = m - 1 + 1 := by omega
      have h' := h
      rw [e1, e2] at h'
      obtain ⟨q, g1, g2, g3⟩ := (pre_succ (by omega)).mp h'
      have hs : q ∈ sn := L.all (m - 1) q (by omega) (by omega) g2
      by_cases he : q ∈ ed
      · rw [hb', if_pos ⟨q, he, g3⟩]
        exact Nat.le_refl _
      · obtain ⟨_, k, g4, g5⟩ := L.old q hs he
        have : Pre now now.length (k + 1) := by
          rw [e1]
          exact (pre_succ (by omega)).mpr ⟨q, g1, g5, g3⟩
        have := L.best (k + 1) g4 this
        omega
theorem lay_exit {now : W} {ed sn : List Nat} {sz b : Nat} (hn : now ≠ []) (L : Lay now ed sz sn b) (h : ed = [] ∨ b ≤ sz) (m : Nat) (hm : Pre now now.length m) : b ≤ m := by
  have hl : 0 < now.length := List.length_pos_iff.mpr hn
  by_cases em : m < sz
  · exact L.best m em hm
  · rcases h with h | h
    · subst h
      have all : ∀ k p, p < now.length → Pre now p k → p ∈ sn := by
        intro k
        induction k with
        | zero => exact fun p hp h => L.all 0 p (by have := L.pos; omega) hp h
        | succ k ih =>
          intro p hp h
          cases p with
          | zero => exact absurd h pre_zero_succ
          | succ p =>
            obtain ⟨q, g1, g2, g3⟩ := (pre_succ (by omega)).mp h
            exact L.cl q (ih q (by omega) g2) (by simp) p g1 hp g3.symm
      have hp := L.pos
      have e1 : now.length = now.length - 1 + 1 := by omega
      have e2 : m = m - 1 + 1 := by omega
      rw [e1, e2] at hm
      obtain ⟨q, g1, g2, g3⟩ := (pre_succ (by omega)).mp hm
      obtain ⟨_, k, g4, g5⟩ := L.old q (all _ q (by omega) g2) (by simp)
      have : Pre now now.length (k + 1) := by
        rw [e1]
        exact (pre_succ (by omega)).mpr ⟨q, g1, g5, g3⟩
      have := L.best (k + 1) g4 this
      omega
    · omega
/-- the fewest blocks of all turns -/
structure Short (f : W) (b : Nat) : Prop where
  here : ∃ i, i < f.length ∧ Pre (rot f i) f.length b
  least : ∀ i m, i < f.length → Pre (rot f i) f.length m → b ≤ m
theorem pre_self {f : W} : Pre f f.length f.length := ⟨f, rfl, 0, by rw [List.take_length]; exact pc_self f⟩
theorem rot_zero (f : W) : rot f 0 = f := by simp [rot]
/-- and these are the shortest rings that are reached -/
theorem short_reach {f : W} (hf : f ≠ []) {b : Nat} (s : Short f b) : (∃ g, Reach (lturn f) g ∧ g.length = b) ∧ ∀ g, Reach (lturn f) g → b ≤ g.length := by
  constructor
  · obtain ⟨i, hi, g, h1, c, h2⟩ := s.here
    have e : (rot f i).take f.length = rot f i := List.take_of_length_le (by rw [rot_len]; exact Nat.le_refl _)
    rw [e] at h2
    have hg : g ≠ [] := h2.goal_ne ((Sim.rot f i).ne hf)
    exact ⟨lturn g, ⟨c, part_steps hf hg h2⟩, by rw [lturn_len hg]; exact h1⟩
  · rintro g ⟨k, st⟩
    obtain ⟨hg, _, _, hgl⟩ := st.good (lturn_ne hf)
    have hgl := hgl (lturn_idem hf)
    rw [← hgl] at st
    obtain ⟨i, c, hi, hc, p⟩ := steps_part hf hg st
    refine s.least i g.length hi ⟨g, rfl, c, ?_⟩
    have e : (rot f i).take f.length = rot f i := List.take_of_length_le (by rw [rot_len]; exact Nat.le_refl _)
    rw [e]
    exact p
end Rg
set_option Elab.async false
set_option linter.all false
set_option maxRecDepth 100000
set_option maxHeartbeats 8000000
namespace G
open PySem PySem.Spec PyProof.Rows L2
open Rg (W)
abbrev nRingShortest : List Str := ["film", "best", "place", "now", "edge", "size", "seen", "later", "one", "end"]
theorem scRingShortest : FnScope nRingShortest ["film"] (defScope sRingShortest) := ⟨rfl, rfl, rfl, by decide +kernel, rfl, by decide +kernel, by decide +kernel⟩
def spShortest : Sp := fun vs H Q _ => ∃ f : W, vs = [txV f] ∧ Film f ∧ ∀ (b : Nat) (H' : Hp), Same H H' → Rg.Short f b → Q (nV b) H'
/-- places as keys -/
def kdi (l : List Nat) : List (Key × V) := List.map (fun q : Nat => (Sum.inl (q : Int), V.bl true)) l
theorem valV_kdi (x : Nat) : ∀ l : List Nat, valV (kdi l) (Sum.inl (x : Int) : Key) = if x ∈ l then some (.bl true) else none
  | [] => rfl
  | y :: l => by
    show valV ((Sum.inl (y : Int), V.bl true) :: kdi l) _ = _
    by_cases e : y = x
    · subst e
      rw [valV_pos rfl]
      simp
    · rw [valV_neg (fun q => e (by have := Sum.inl.inj q; omega)), valV_kdi x l]
      simp [Ne.symm e]
theorem putK_kdi {l : List Nat} {x : Nat} (h : x ∉ l) : putK (kdi l) (Sum.inl (x : Int) : Key) (.bl true) = kdi (l ++ [x]) := by
  rw [putK_new _ (by rw [valV_kdi, if_neg h])]
  simp [kdi]
theorem kdi_len (l : List Nat) : (kdi l).length = l.length := by simp [kdi]
theorem at_neg {f : W} (hf : f ≠ []) {c : Nat} (h : f[f.length - 1]? = some c) : atI (tx f).cps.toList (-1) = some c := by
  obtain ⟨g, x, e⟩ := (List.eq_nil_or_concat f).resolve_left hf
  rw [List.concat_eq_append] at e
  subst e
  have : x = c := by simpa using h
  rw [tx_list, this]
  exact atI_last _ _
section
variable {P : Program} {w : World} {K : PySem.W.Frag} {mg : Str → Option Value} {base : Heap} {f : Addr} {fd : FuncData}
theorem ok_ring_shortest (F : FnP K "ring_shortest" sRingShortest f fd) (T : Fr mg) (Dneed_ring : Df P w K mg base "need_ring" ["film"] 2 spNeedFilm) (Dturned : Df P w K mg base "turned" ["film", "place"] 1 spTurned) :
    FnOk P w K mg base CX0 3 f fd ["film"] spShortest := by
  refine F.ok scRingShortest (fun vs H Q E h => ?_) (fun cdv A outer s H vs Q E hr h => ?_)
  · obtain ⟨f, rfl, _⟩ := h
    rfl
  · obtain ⟨f, rfl, hf, k⟩ := h
    have hu := hu_of hr
    have nd := scRingShortest.nd
    refine ⟨_, PSs.nox (pss_cons (ps_expr (Dneed_ring.call (hr.mono (by decide)) (by rfl) (pa_cons (pv 0) pa_nil)))
      (pss_cons (ps_if (pt_cmpR op_eq (pe_callB call_len_str (by rfl) T.len bt_len (pa_cons (pv 0) pa_nil)) pe_int (nomark _)) (pss_one (ps_ret pe_int)) pss_nil)
      (pss_cons (ps_set (i := 1) nd rfl (Or.inl rfl) (pe_callB call_len_str (by rfl) T.len bt_len (pa_cons (pv 0) pa_nil)))
      (pss_cons (ps_for PassesOwn.never rfl (pi_range1 (by rfl) T.range (pa_cons (pe_callB call_len_str (by rfl) T.len bt_len (pa_cons (pv 0) pa_nil)) pa_nil)) (pg_name (i := 2) nd rfl (Or.inl rfl)) (pss_cons (ps_set (i := 3) nd rfl (Or.inr rfl) (Dturned.call (hr.mono (by decide)) (by rfl) (pa_cons (pv 0) (pa_cons (pv 2) pa_nil))))
      (pss_cons (ps_par3 (i := 4) (j := 5) (l := 6) (by rfl) nd rfl rfl rfl (by decide) (by decide) (by decide) rfl rfl rfl (pa_cons (pe_lst (pa_cons pe_int pa_nil)) (pa_cons pe_int (pa_cons (pe_disp (pps_cons pe_int pe_bl pps_nil) (by rfl) (by rfl) (fun z => by cases z) (by decide)) pa_nil))) (by rfl))
      (pss_one (ps_while PassesOwn.never (PW.pt (pw_and (pt_cmpR (op_neD hr.units) (pv 4) (pe_lst pa_nil) (nomark _)) (pw_and1 (pt_cmpR op_lt (pv 5) (pv 1) (nomark _))))) (pss_cons (ps_if (pt_val (pe_callB (cr_any rfl) (by rfl) T.any bt_any (pa_cons (pe_lc (own := [("one", 8)]) (g := (gName 8)) (tt := tYes) rfl nd (pi_list (pv 4)) (blkOk_by (N := nRingShortest) (sc := defScope sRingShortest) (by decide +kernel)) (fun _ _ _ _ _ => pg_name (i := 8) nd rfl (Or.inl rfl)) (fun _ _ _ _ _ => pts_nil) (fun _ _ _ _ _ => (pe_cmpR op_eq (pe_ix ix_str (pv 3) (pv 8) (fun _ _ => rfl)) (pe_ix ix_str (pv 3) (pe_un un_neg pe_int) (fun _ _ => rfl)) (nomark _)))) pa_nil))) (pss_one (ps_set (i := 1) nd rfl (Or.inl rfl) (pv 5))) pss_nil)
      (pss_cons (ps_set (i := 7) nd rfl (Or.inl rfl) (pe_lst pa_nil))
      (pss_cons (ps_for PassesOwn.never rfl (pi_list (pv 4)) (pg_name (i := 8) nd rfl (Or.inl rfl)) (pss_one (ps_for PassesOwn.never rfl (pi_range2 (by rfl) T.range (pa_cons (pv 8) (pa_cons (pe_op op_sub (pe_callB call_len_str (by rfl) T.len bt_len (pa_cons (pv 3) pa_nil)) pe_int) pa_nil))) (pg_name (i := 9) nd rfl (Or.inl rfl)) (pss_one (ps_if (PW.pt (pw_and (pt_cmpR op_eq (pe_ix ix_str (pv 3) (pv 9) (fun _ _ => rfl)) (pe_ix ix_str (pv 3) (pv 8) (fun _ _ => rfl)) (nomark _)) (pw_and1 (pt_cmp (pc_dnotin hu (pe_op op_add (pv 9) pe_int) (pv 6)))))) (pss_cons (ps_dput hu (pv 6) (pe_op op_add (pv 9) pe_int) pe_bl rfl)
      (pss_one (ps_expr (pe_bm PySem.F.plainAttrs_list PySem.F.slot_list_append PySem.F.type_list_append mt_append (pv 7) (pa_cons (pe_op op_add (pv 9) pe_int) pa_nil))))) pss_nil)))))
      (pss_one (ps_par (i := 4) (j := 5) (by rfl) nd rfl rfl (by decide) rfl rfl (pa_cons (pv 7) (pa_cons (pe_op op_add (pv 5) pe_int) pa_nil)) (by rfl)))))))))))
      (pss_one (ps_ret (pv 1))))))), ?_⟩
    have h8 := hf.len
    have hpos := hf.pos
    have hl : (tx f).length ≤ sizeLine := txl (by omega)
    refine ⟨_, rfl, f, rfl, hf, fun H1 s1 => ⟨_, rfl, _, rfl, hl, rfl, _, rfl, iteB (fun e => ?_) fun e => ?_⟩⟩
    · have e := V.int.inj (of_decide_eq_true e)
      rw [tx_len] at e
      have e : f.length = 1 := by omega
      refine k 1 H1 s1 ⟨⟨0, by omega, ?_⟩, fun i m hi hm => ?_⟩
      · rw [Rg.rot_zero]
        have := Rg.pre_self (f := f)
        rw [e] at this ⊢
        exact this
      · cases m with
        | zero =>
          have := (Rg.pre_zero ((Rg.Sim.rot f i).ne hf.ne)).mp hm
          omega
        | succ m => omega
    · refine ⟨_, rfl, _, rfl, hl, _, rfl, _, rfl, hl, _, rfl, ?_, ?_, ?_⟩
      · rw [tx_len]; omega
      · rw [tx_len]; omega
      rw [tx_len, Int.toNat_natCast]
      refine for_it walk_range (fun i σ H2 => ∃ b v2 v3 v4 v5 v6 v7 v8 v9, σ = [some (txV f), some (nV b), v2, v3, v4, v5, v6, v7, v8, v9] ∧ Same H H2 ∧ b ≤ f.length ∧ (∃ j, j < f.length ∧ Rg.Pre (Rg.rot f j) f.length b) ∧ ∀ j m, j < i → Rg.Pre (Rg.rot f j) f.length m → b ≤ m)
        ⟨f.length, _, _, _, _, _, _, _, _, rfl, s1, Nat.le_refl _, ⟨0, hpos, by rw [Rg.rot_zero]; exact Rg.pre_self⟩, fun j m h => absurd h (Nat.not_lt_zero _)⟩ (fun _ _ _ _ _ => trivial) ?_ ?_
      · rintro i x σ H3 H2 hi ⟨b0, v2, v3, v4, v5, v6, v7, v8, v9, rfl, s2, hb0, ha0, hm0⟩ ⟨rfl, ex⟩
        have ex := int_eq ex (show (0 : Int) + (i : Int) = (i : Int) by omega)
        subst ex
        refine ⟨_, rfl, _, rfl, f, i, rfl, by omega, ?_⟩
        have rl : (Rg.rot f i).length = f.length := Rg.rot_len f i
        have rne : Rg.rot f i ≠ [] := (Rg.Sim.rot f i).ne hf.ne
        have ach : ∀ b, Rg.Pre (Rg.rot f i) (Rg.rot f i).length b → ∃ j, j < f.length ∧ Rg.Pre (Rg.rot f j) (Rg.rot f i).length b := fun b h => ⟨i, hi, h⟩
        have out : ∀ b, b ≤ b0 → (∀ m, Rg.Pre (Rg.rot f i) (Rg.rot f i).length m → b ≤ m) → ∀ j m, j < i + 1 → Rg.Pre (Rg.rot f j) f.length m → b ≤ m := fun b hb hm j m hj h => by
          by_cases e : j = i
          · subst e
            exact hm m (by rw [rl]; exact h)
          · exact Nat.le_trans hb (hm0 j m (by omega) h)
        generalize hnow : Rg.rot f i = now at rl rne ach out
        have hl2 : (tx now).length ≤ sizeLine := txl (by omega)
        refine ⟨by show 1 ≤ sizeLine; decide, fun e he => ?_⟩
        intro d hd
        refine ⟨upd_same, [(Sum.inl 0, .bl true)], rfl, by show 1 ≤ 15; decide, _, _, _, rfl, ?_⟩
        have nHe : H e = none := s2.free he
        have s3 : Same H (upd H2 e (.lst [.int 0])) := same_new s2 nHe
        have nHd : H d = none := s3.free hd
        have he4 : (upd (upd (upd H2 e (.lst [.int 0])) d (.dK [])) d (.dK (mergeK [] [(Sum.inl 0, .bl true)]))) e = some (.lst ([0].map nV)) := by
          rw [upd_upd]
          exact upd_new upd_same hd
        have hd4 : (upd (upd (upd H2 e (.lst [.int 0])) d (.dK [])) d (.dK (mergeK [] [(Sum.inl 0, .bl true)]))) d = some (.dK (kdi [0])) := upd_same
        have s4 : Same H (upd (upd (upd H2 e (.lst [.int 0])) d (.dK [])) d (.dK (mergeK [] [(Sum.inl 0, .bl true)]))) := same_new (same_new s3 nHd) nHd
        generalize upd (upd (upd H2 e (.lst [.int 0])) d (.dK [])) d (.dK (mergeK [] [(Sum.inl 0, .bl true)])) = H4 at he4 hd4 s4
        clear he hd s3
        refine ⟨fun m σ H5 => ∃ ed sz sn b e d v7 v8 v9, σ = [some (txV f), some (nV b), some (nV i), some (txV now), some (.ref e), some (nV sz), some (.ref d), v7, v8, v9] ∧ Same H H5 ∧ H5 e = some (.lst (ed.map nV)) ∧ H5 d = some (.dK (kdi sn)) ∧ H e = none ∧ H d = none ∧
          Rg.Lay now ed sz sn b ∧ b ≤ b0 ∧ (∃ j, j < f.length ∧ Rg.Pre (Rg.rot f j) now.length b) ∧ sn.Nodup ∧ ed.length ≤ 8 ∧ m = now.length + 1 - sz, ⟨_, [0], 1, [0], b0, e, d, v7, v8, v9, rfl, s4, he4, hd4, nHe, nHd, Rg.lay_start rne b0, Nat.le_refl _, by rw [rl]; exact ha0, by simp, by decide, rfl⟩, ?_⟩
        clear he4 hd4 nHe nHd s4
        rintro m σ H5 ⟨ed, sz, sn, b, e, d, v7, v8, v9, rfl, s5, he5, hd5, nHe, nHd, L, hb, ha, hsn, hed, em⟩
        refine ⟨_, rfl, by show 0 ≤ sizeLine; decide, fun Z hZ => neNil (.of (upd_new he5 hZ)) (.of upd_same) (fun v hv => ?_) ⟨_, rfl, ?_⟩⟩
        · obtain ⟨q, _, rfl⟩ := List.mem_map.mp hv
          exact ok3_int _
        have he6 := upd_new (o := .lst []) he5 hZ
        have hd6 := upd_new (o := .lst []) hd5 hZ
        have s6 : Same H (upd H5 Z (.lst [])) := same_new s5 (s5.free hZ)
        generalize upd H5 Z (.lst []) = H6 at he6 hd6 s6
        refine iteB (fun e1 => ?_) fun e1 => ?_
        · refine ⟨_, rfl, _, rfl, _, _, rfl, rfl, _, rfl, iteB (fun e2 => ?_) fun e2 => ?_⟩
          · have e2 := of_decide_eq_true e2
            have hszb : sz < b := by omega
            have hex : (ed.map fun q => decide (now[q]? = now[now.length - 1]?)).any id = true ↔ ∃ q ∈ ed, now[q]? = now[now.length - 1]? := by
              rw [List.any_map, List.any_eq_true]
              constructor
              · rintro ⟨q, h1, h2⟩
                exact ⟨q, h1, of_decide_eq_true h2⟩
              · rintro ⟨q, h1, h2⟩
                exact ⟨q, h1, decide_eq_true h2⟩
            have hlast : now.length - 1 < now.length := by omega
            refine ⟨fun σ' H' => ∃ m', m' < m ∧ ∃ ed sz sn b e d v7 v8 v9, σ' = [some (txV f), some (nV b), some (nV i), some (txV now), some (.ref e), some (nV sz), some (.ref d), v7, v8, v9] ∧ Same H H' ∧ H' e = some (.lst (ed.map nV)) ∧ H' d = some (.dK (kdi sn)) ∧ H e = none ∧ H d = none ∧
              Rg.Lay now ed sz sn b ∧ b ≤ b0 ∧ (∃ j, j < f.length ∧ Rg.Pre (Rg.rot f j) now.length b) ∧ sn.Nodup ∧ ed.length ≤ 8 ∧ m' = now.length + 1 - sz, fun _ _ z => z, ?_⟩
            refine ⟨_, rfl, e, rfl, ⟨_, .of he6⟩, fun D hD => ?_⟩
            refine lc_it walk_list (PvL D H6 (filT (fun _ => true) (fun q => V.bl (decide (now[q]? = now[now.length - 1]?))) ed)) (PvL.start hD rfl) (fun _ _ _ p => p.same.seq (.of he6)) ?_ ?_
            · rintro j x H7 H8 hj p ⟨rfl, hx⟩
              obtain ⟨q, hq, rfl⟩ := at_map hx
              have hqn := (L.new q (List.mem_of_getElem? hq)).1
              refine ⟨rfl, tyes ?_⟩
              refine ⟨_, rfl, _, rfl, _, _, _, rfl, rfl, hl2, atN rfl (List.getElem?_eq_getElem hqn), _, rfl, _, rfl, _, _, _, rfl, rfl, hl2, at_neg rne (List.getElem?_eq_getElem hlast), rfl, ?_⟩
              rw [sign_eqV]
              have ev : V.bl (decide (now[q] = now[now.length - 1])) = (fun q => V.bl (decide (now[q]? = now[now.length - 1]?))) q := by
                show _ = V.bl (decide (now[q]? = now[now.length - 1]?))
                rw [List.getElem?_eq_getElem hqn, List.getElem?_eq_getElem hlast]
                congr 1
                exact decide_eq_decide.mpr ⟨fun h => by rw [h], fun h => Option.some.inj h⟩
              rw [ev]
              exact ⟨_, p.at_, lt_line (Nat.le_trans (filT_len _ _ _ _) (by omega)), PvL.push hD p.same (filT_yes hq rfl)⟩
            · intro H7 p7
              have hB7 : H7 D = some (.lst ((ed.map fun q => decide (now[q]? = now[now.length - 1]?)).map V.bl)) := by
                rw [p7.at_, List.length_map, filT_all, List.filter_eq_self.mpr (fun _ _ => rfl)]
                simp [List.map_map, Function.comp_def]
              have he8 := p7.same _ _ he6
              have hd8 := p7.same _ _ hd6
              have s8 := s6.trans p7.same
              refine ⟨D, _, rfl, .of hB7, _, rfl, iteB (fun e3 => ?_) fun e3 => ?_⟩
              · have hexx := hex.mp e3
                obtain ⟨bb, hbb⟩ : ∃ bb, bb = sz := ⟨_, rfl⟩
                have hb' : bb = if ∃ q ∈ ed, now[q]? = now[now.length - 1]? then sz else b := by rw [if_pos hexx, hbb]
                have hab : ∃ j, j < f.length ∧ Rg.Pre (Rg.rot f j) now.length bb := by
                  obtain ⟨q, q1, q2⟩ := hexx
                  rw [hbb]
                  exact ach sz (Rg.lay_full rne L q1 q2)
                refine ⟨_, rfl, ?_⟩
                have hbb0 : bb ≤ b0 := by omega
                refine ⟨by show 0 ≤ sizeLine; decide, fun t ht => ?_⟩
                have he9 := upd_new (o := .lst []) he8 ht
                have hd9 := upd_new (o := .lst []) hd8 ht
                have s9 : Same H (upd H7 t (.lst [])) := same_new s8 (s8.free ht)
                have nHt : H t = none := s8.free ht
                have nte : e ≠ t := ne_of_none he8 ht
                have ht9 : (upd H7 t (.lst [])) t = some (.lst (([] : List Nat).map nV)) := upd_same
                generalize upd H7 t (.lst []) = H9 at he9 hd9 s9 ht9
                refine ⟨_, rfl, e, rfl, ⟨_, .of he9⟩, ?_⟩
                have ntd : d ≠ t := ne_of hd9 ht9 (by intro z; cases z)
                have nde : d ≠ e := ne_of hd9 he9 (by intro z; cases z)
                refine for_it walk_list (fun k2 σ HA => ∃ lt v8 v9, σ = [some (txV f), some (nV bb), some (nV i), some (txV now), some (.ref e), some (nV sz), some (.ref d), some (.ref t), v8, v9] ∧ Same H HA ∧ HA e = some (.lst (ed.map nV)) ∧ HA d = some (.dK (kdi (sn ++ lt))) ∧ HA t = some (.lst (lt.map nV)) ∧ (sn ++ lt).Nodup ∧
                  (∀ q ∈ lt, q < now.length ∧ Rg.Pre now q sz) ∧ ∀ p ∈ ed.take k2, ∀ e, p ≤ e → e + 1 < now.length → now[e]? = now[p]? → e + 1 ∈ sn ++ lt) ⟨[], v8, v9, by rw [hbb]; rfl, s9, he9, by rw [List.append_nil]; exact hd9, ht9, by rw [List.append_nil]; exact hsn, by simp, by simp⟩ (fun _ _ _ _ ⟨_, _, _, _, _, z, _⟩ => .of z) ?_ ?_
                · rintro k2 x σ HB HA hk2 ⟨lt, v8, v9, rfl, sA, heA, hdA, htA, nA, gA, cA⟩ ⟨rfl, hx⟩
                  obtain ⟨q, hq, rfl⟩ := at_map hx
                  obtain ⟨hqn, hqp⟩ := L.new q (List.mem_of_getElem? hq)
                  refine ⟨_, rfl, _, rfl, _, rfl, hl2, _, _, rfl, rfl, _, _, rfl, ?_, ?_⟩
                  · rw [tx_len]; omega
                  have en : (((tx now).length : Int) - 1 - (q : Int)).toNat = now.length - 1 - q := by rw [tx_len]; omega
                  have en2 : ((fun i j => V.int (i - j)) ((tx now).length : Int) 1) = V.int (((tx now).length : Int) - 1) := rfl
                  refine for_it (walk_range (lo := (q : Int)) (n := (((tx now).length : Int) - 1 - (q : Int)).toNat)) (fun j σ HC => ∃ lt v9, σ = [some (txV f), some (nV bb), some (nV i), some (txV now), some (.ref e), some (nV sz), some (.ref d), some (.ref t), some (nV q), v9] ∧ Same H HC ∧ HC e = some (.lst (ed.map nV)) ∧ HC d = some (.dK (kdi (sn ++ lt))) ∧ HC t = some (.lst (lt.map nV)) ∧ (sn ++ lt).Nodup ∧
                    (∀ q ∈ lt, q < now.length ∧ Rg.Pre now q sz) ∧ (∀ p ∈ ed.take k2, ∀ e, p ≤ e → e + 1 < now.length → now[e]? = now[p]? → e + 1 ∈ sn ++ lt) ∧ ∀ e, q ≤ e → e < q + j → e + 1 < now.length → now[e]? = now[q]? → e + 1 ∈ sn ++ lt) ⟨lt, _, rfl, sA, heA, hdA, htA, nA, gA, cA, fun e h1 h2 => absurd h2 (by omega)⟩ (fun _ _ _ _ _ => trivial) ?_ ?_
                  · rintro j x σ HD HC hj ⟨lt, v9, rfl, sC, heC, hdC, htC, nC, gC, cC, dC⟩ ⟨rfl, ex⟩
                    have ex := int_eq ex (show (q : Int) + (j : Int) = ((q + j : Nat) : Int) by omega)
                    subst ex
                    rw [en] at hj
                    have hqj : q + j < now.length := by omega
                    refine ⟨_, rfl, _, rfl, _, _, _, rfl, rfl, hl2, atN rfl (List.getElem?_eq_getElem hqj), _, rfl, _, rfl, _, _, _, rfl, rfl, hl2, atN rfl (List.getElem?_eq_getElem hqn), rfl, _, rfl, iteB (fun e4 => ?_) fun e4 => ?_⟩
                    · have e4 := of_decide_eq_true (sign_eqV _ _ ▸ e4)
                      have e4 : now[q + j]? = now[q]? := by rw [List.getElem?_eq_getElem hqj, List.getElem?_eq_getElem hqn, e4]
                      refine ⟨_, rfl, _, _, rfl, rfl, _, rfl, d, _, rfl, DGet.k (k := Sum.inl ((q + j + 1 : Nat) : Int)) hdC, _, rfl, ?_⟩
                      rw [valV_kdi]
                      by_cases ein : q + j + 1 ∈ sn ++ lt
                      · rw [if_pos ein]
                        refine iteF ⟨lt, _, rfl, sC, heC, hdC, htC, nC, gC, cC, fun e h1 h2 h3 h4 => ?_⟩
                        by_cases ee : e = q + j
                        · rw [ee]; exact ein
                        · exact dC e h1 (by omega) h3 h4
                      · rw [if_neg ein]
                        refine iteT ?_
                        have hR : Rg.Pre now (q + j + 1) sz := by
                          have e5 : sz = sz - 1 + 1 := by have := L.pos; omega
                          rw [e5]
                          exact (Rg.pre_succ hqj).mpr ⟨q, by omega, hqp, e4.symm⟩
                        have hltn : ∀ z ∈ sn ++ lt, z < now.length := fun z hz => by
                          rcases List.mem_append.mp hz with w | w
                          · by_cases h : z ∈ ed
                            · exact (L.new z h).1
                            · exact (L.old z w h).1
                          · exact (gC z w).1
                        have hlen : (sn ++ lt).length ≤ now.length := by
                          have := Rg.pigeon (sn ++ lt) (List.range now.length) nC fun z hz => List.mem_range.mpr (hltn z hz)
                          simpa using this
                        rw [List.length_append] at hlen
                        have nC2 : (sn ++ lt ++ [q + j + 1]).Nodup := List.nodup_append.mpr ⟨nC, by simp, fun a ha b hb e => by rw [List.mem_singleton] at hb; rw [e, hb] at ha; exact ein ha⟩
                        refine ⟨_, rfl, _, rfl, _, _, rfl, rfl, d, _, rfl, DPut.k (k := Sum.inl ((q + j + 1 : Nat) : Int)) hdC (lt_line' (by rw [kdi_len, List.length_append]; omega)), ?_⟩
                        rw [putK_kdi ein]
                        have heE : (upd HC d (.dK (kdi (sn ++ lt ++ [q + j + 1])))) e = some (.lst (ed.map nV)) := by rw [upd_ne (Ne.symm nde)]; exact heC
                        have htE : (upd HC d (.dK (kdi (sn ++ lt ++ [q + j + 1])))) t = some (.lst (lt.map nV)) := by rw [upd_ne (Ne.symm ntd)]; exact htC
                        have hdE : (upd HC d (.dK (kdi (sn ++ lt ++ [q + j + 1])))) d = some (.dK (kdi (sn ++ lt ++ [q + j + 1]))) := upd_same
                        have sE : Same H (upd HC d (.dK (kdi (sn ++ lt ++ [q + j + 1])))) := same_new sC nHd
                        generalize upd HC d (.dK (kdi (sn ++ lt ++ [q + j + 1]))) = HE at heE htE hdE sE
                        refine ⟨_, rfl, .inl ⟨rfl, _, .of htE⟩, _, rfl, _, _, rfl, rfl, t, _, _, rfl, rfl, htE, lt_line' (by rw [List.length_map]; omega), ?_⟩
                        have eap : sn ++ (lt ++ [q + j + 1]) = sn ++ lt ++ [q + j + 1] := (List.append_assoc _ _ _).symm
                        refine ⟨lt ++ [q + j + 1], _, rfl, same_new sE nHt, by rw [upd_ne nte]; exact heE, by rw [upd_ne ntd, eap]; exact hdE, by rw [upd_same]; simp, by rw [eap]; exact nC2, fun z hz => ?_, fun p hp e h1 h2 h3 => ?_, fun e h1 h2 h3 h4 => ?_⟩
                        · rcases List.mem_append.mp hz with w | w
                          · exact gC z w
                          · rw [List.mem_singleton] at w
                            rw [w]
                            exact ⟨by omega, hR⟩
                        · rw [eap]
                          exact List.mem_append_left _ (cC p hp e h1 h2 h3)
                        · rw [eap]
                          by_cases ee : e = q + j
                          · rw [ee]
                            exact List.mem_append_right _ (by simp)
                          · exact List.mem_append_left _ (dC e h1 (by omega) h3 h4)
                    · have e4 := of_decide_eq_false (sign_eqV _ _ ▸ e4)
                      have e4 : ¬ now[q + j]? = now[q]? := by
                        rw [List.getElem?_eq_getElem hqj, List.getElem?_eq_getElem hqn]
                        exact fun z => e4 (Option.some.inj z)
                      refine iteF ⟨lt, _, rfl, sC, heC, hdC, htC, nC, gC, cC, fun e h1 h2 h3 h4 => ?_⟩
                      by_cases ee : e = q + j
                      · rw [ee] at h4
                        exact absurd h4 e4
                      · exact dC e h1 (by omega) h3 h4
                  · rintro σ HC ⟨lt, v9, rfl, sC, heC, hdC, htC, nC, gC, cC, dC⟩
                    refine ⟨lt, _, _, rfl, sC, heC, hdC, htC, nC, gC, fun p hp e h1 h2 h3 => ?_⟩
                    rw [take_succ hq] at hp
                    rcases List.mem_append.mp hp with w | w
                    · exact cC p w e h1 h2 h3
                    · rw [List.mem_singleton] at w
                      subst w
                      exact dC e h1 (by rw [en]; omega) h2 h3
                · rintro σ HA ⟨lt, v8, v9, rfl, sA, heA, hdA, htA, nA, gA, cA⟩
                  rw [List.length_map, List.take_length] at cA
                  have L2 := Rg.lay_step rne L hszb hb' gA cA
                  have hlt8 : lt.length ≤ 8 := by
                    have := Rg.pigeon lt (List.range now.length) (List.nodup_append.mp nA).2.1 fun z hz => List.mem_range.mpr (gA z hz).1
                    rw [List.length_range] at this
                    omega
                  refine ⟨_, rfl, _, rfl, _, _, rfl, rfl, _, _, rfl, ?_⟩
                  exact ⟨now.length + 1 - (sz + 1), by omega, lt, sz + 1, sn ++ lt, bb, t, d, _, _, _, rfl, sA, htA, hdA, nHt, nHd, L2, hbb0, hab, nA, hlt8, rfl⟩
              · have hexx : ¬ ∃ q ∈ ed, now[q]? = now[now.length - 1]? := fun z => by
                  rw [hex.mpr z] at e3
                  cases e3
                obtain ⟨bb, hbb⟩ : ∃ bb, bb = b := ⟨_, rfl⟩
                have hb' : bb = if ∃ q ∈ ed, now[q]? = now[now.length - 1]? then sz else b := by rw [if_neg hexx, hbb]
                have hab : ∃ j, j < f.length ∧ Rg.Pre (Rg.rot f j) now.length bb := by
                  rw [hbb]
                  exact ha
                have hbb0 : bb ≤ b0 := by omega
                refine ⟨by show 0 ≤ sizeLine; decide, fun t ht => ?_⟩
                have he9 := upd_new (o := .lst []) he8 ht
                have hd9 := upd_new (o := .lst []) hd8 ht
                have s9 : Same H (upd H7 t (.lst [])) := same_new s8 (s8.free ht)
                have nHt : H t = none := s8.free ht
                have nte : e ≠ t := ne_of_none he8 ht
                have ht9 : (upd H7 t (.lst [])) t = some (.lst (([] : List Nat).map nV)) := upd_same
                generalize upd H7 t (.lst []) = H9 at he9 hd9 s9 ht9
                refine ⟨_, rfl, e, rfl, ⟨_, .of he9⟩, ?_⟩
                have ntd : d ≠ t := ne_of hd9 ht9 (by intro z; cases z)
                have nde : d ≠ e := ne_of hd9 he9 (by intro z; cases z)
                refine for_it walk_list (fun k2 σ HA => ∃ lt v8 v9, σ = [some (txV f), some (nV bb), some (nV i), some (txV now), some (.ref e), some (nV sz), some (.ref d), some (.ref t), v8, v9] ∧ Same H HA ∧ HA e = some (.lst (ed.map nV)) ∧ HA d = some (.dK (kdi (sn ++ lt))) ∧ HA t = some (.lst (lt.map nV)) ∧ (sn ++ lt).Nodup ∧
                  (∀ q ∈ lt, q < now.length ∧ Rg.Pre now q sz) ∧ ∀ p ∈ ed.take k2, ∀ e, p ≤ e → e + 1 < now.length → now[e]? = now[p]? → e + 1 ∈ sn ++ lt) ⟨[], v8, v9, by rw [hbb]; rfl, s9, he9, by rw [List.append_nil]; exact hd9, ht9, by rw [List.append_nil]; exact hsn, by simp, by simp⟩ (fun _ _ _ _ ⟨_, _, _, _, _, z, _⟩ => .of z) ?_ ?_
                · rintro k2 x σ HB HA hk2 ⟨lt, v8, v9, rfl, sA, heA, hdA, htA, nA, gA, cA⟩ ⟨rfl, hx⟩
                  obtain ⟨q, hq, rfl⟩ := at_map hx
                  obtain ⟨hqn, hqp⟩ := L.new q (List.mem_of_getElem? hq)
                  refine ⟨_, rfl, _, rfl, _, rfl, hl2, _, _, rfl, rfl, _, _, rfl, ?_, ?_⟩
                  · rw [tx_len]; omega
                  have en : (((tx now).length : Int) - 1 - (q : Int)).toNat = now.length - 1 - q := by rw [tx_len]; omega
                  have en2 : ((fun i j => V.int (i - j)) ((tx now).length : Int) 1) = V.int (((tx now).length : Int) - 1) := rfl
                  refine for_it (walk_range (lo := (q : Int)) (n := (((tx now).length : Int) - 1 - (q : Int)).toNat)) (fun j σ HC => ∃ lt v9, σ = [some (txV f), some (nV bb), some (nV i), some (txV now), some (.ref e), some (nV sz), some (.ref d), some (.ref t), some (nV q), v9] ∧ Same H HC ∧ HC e = some (.lst (ed.map nV)) ∧ HC d = some (.dK (kdi (sn ++ lt))) ∧ HC t = some (.lst (lt.map nV)) ∧ (sn ++ lt).Nodup ∧
                    (∀ q ∈ lt, q < now.length ∧ Rg.Pre now q sz) ∧ (∀ p ∈ ed.take k2, ∀ e, p ≤ e → e + 1 < now.length → now[e]? = now[p]? → e + 1 ∈ sn ++ lt) ∧ ∀ e, q ≤ e → e < q + j → e + 1 < now.length → now[e]? = now[q]? → e + 1 ∈ sn ++ lt) ⟨lt, _, rfl, sA, heA, hdA, htA, nA, gA, cA, fun e h1 h2 => absurd h2 (by omega)⟩ (fun _ _ _ _ _ => trivial) ?_ ?_
                  · rintro j x σ HD HC hj ⟨lt, v9, rfl, sC, heC, hdC, htC, nC, gC, cC, dC⟩ ⟨rfl, ex⟩
                    have ex := int_eq ex (show (q : Int) + (j : Int) = ((q + j : Nat) : Int) by omega)
                    subst ex
                    rw [en] at hj
                    have hqj : q + j < now.length := by omega
                    refine ⟨_, rfl, _, rfl, _, _, _, rfl, rfl, hl2, atN rfl (List.getElem?_eq_getElem hqj), _, rfl, _, rfl, _, _, _, rfl, rfl, hl2, atN rfl (List.getElem?_eq_getElem hqn), rfl, _, rfl, iteB (fun e4 => ?_) fun e4 => ?_⟩
                    · have e4 := of_decide_eq_true (sign_eqV _ _ ▸ e4)
                      have e4 : now[q + j]? = now[q]? := by rw [List.getElem?_eq_getElem hqj, List.getElem?_eq_getElem hqn, e4]
                      refine ⟨_, rfl, _, _, rfl, rfl, _, rfl, d, _, rfl, DGet.k (k := Sum.inl ((q + j + 1 : Nat) : Int)) hdC, _, rfl, ?_⟩
                      rw [valV_kdi]
                      by_cases ein : q + j + 1 ∈ sn ++ lt
                      · rw [if_pos ein]
                        refine iteF ⟨lt, _, rfl, sC, heC, hdC, htC, nC, gC, cC, fun e h1 h2 h3 h4 => ?_⟩
                        by_cases ee : e = q + j
                        · rw [ee]; exact ein
                        · exact dC e h1 (by omega) h3 h4
                      · rw [if_neg ein]
                        refine iteT ?_
                        have hR : Rg.Pre now (q + j + 1) sz := by
                          have e5 : sz = sz - 1 + 1 := by have := L.pos; omega
                          rw [e5]
                          exact (Rg.pre_succ hqj).mpr ⟨q, by omega, hqp, e4.symm⟩
                        have hltn : ∀ z ∈ sn ++ lt, z < now.length := fun z hz => by
                          rcases List.mem_append.mp hz with w | w
                          · by_cases h : z ∈ ed
                            · exact (L.new z h).1
                            · exact (L.old z w h).1
                          · exact (gC z w).1
                        have hlen : (sn ++ lt).length ≤ now.length := by
                          have := Rg.pigeon (sn ++ lt) (List.range now.length) nC fun z hz => List.mem_range.mpr (hltn z hz)
                          simpa using this
                        rw [List.length_append] at hlen
                        have nC2 : (sn ++ lt ++ [q + j + 1]).Nodup := List.nodup_append.mpr ⟨nC, by simp, fun a ha b hb e => by rw [List.mem_singleton] at hb; rw [e, hb] at ha; exact ein ha⟩
                        refine ⟨_, rfl, _, rfl, _, _, rfl, rfl, d, _, rfl, DPut.k (k := Sum.inl ((q + j + 1 : Nat) : Int)) hdC (lt_line' (by rw [kdi_len, List.length_append]; omega)), ?_⟩
                        rw [putK_kdi ein]
                        have heE : (upd HC d (.dK (kdi (sn ++ lt ++ [q + j + 1])))) e = some (.lst (ed.map nV)) := by rw [upd_ne (Ne.symm nde)]; exact heC
                        have htE : (upd HC d (.dK (kdi (sn ++ lt ++ [q + j + 1])))) t = some (.lst (lt.map nV)) := by rw [upd_ne (Ne.symm ntd)]; exact htC
                        have hdE : (upd HC d (.dK (kdi (sn ++ lt ++ [q + j + 1])))) d = some (.dK (kdi (sn ++ lt ++ [q + j + 1]))) := upd_same
                        have sE : Same H (upd HC d (.dK (kdi (sn ++ lt ++ [q + j + 1])))) := same_new sC nHd
                        generalize upd HC d (.dK (kdi (sn ++ lt ++ [q + j + 1]))) = HE at heE htE hdE sE
                        refine ⟨_, rfl, .inl ⟨rfl, _, .of htE⟩, _, rfl, _, _, rfl, rfl, t, _, _, rfl, rfl, htE, lt_line' (by rw [List.length_map]; omega), ?_⟩
                        have eap : sn ++ (lt ++ [q + j + 1]) = sn ++ lt ++ [q + j + 1] := (List.append_assoc _ _ _).symm
                        refine ⟨lt ++ [q + j + 1], _, rfl, same_new sE nHt, by rw [upd_ne nte]; exact heE, by rw [upd_ne ntd, eap]; exact hdE, by rw [upd_same]; simp, by rw [eap]; exact nC2, fun z hz => ?_, fun p hp e h1 h2 h3 => ?_, fun e h1 h2 h3 h4 => ?_⟩
                        · rcases List.mem_append.mp hz with w | w
                          · exact gC z w
                          · rw [List.mem_singleton] at w
                            rw [w]
                            exact ⟨by omega, hR⟩
                        · rw [eap]
                          exact List.mem_append_left _ (cC p hp e h1 h2 h3)
                        · rw [eap]
                          by_cases ee : e = q + j
                          · rw [ee]
                            exact List.mem_append_right _ (by simp)
                          · exact List.mem_append_left _ (dC e h1 (by omega) h3 h4)
                    · have e4 := of_decide_eq_false (sign_eqV _ _ ▸ e4)
                      have e4 : ¬ now[q + j]? = now[q]? := by
                        rw [List.getElem?_eq_getElem hqj, List.getElem?_eq_getElem hqn]
                        exact fun z => e4 (Option.some.inj z)
                      refine iteF ⟨lt, _, rfl, sC, heC, hdC, htC, nC, gC, cC, fun e h1 h2 h3 h4 => ?_⟩
                      by_cases ee : e = q + j
                      · rw [ee] at h4
                        exact absurd h4 e4
                      · exact dC e h1 (by omega) h3 h4
                  · rintro σ HC ⟨lt, v9, rfl, sC, heC, hdC, htC, nC, gC, cC, dC⟩
                    refine ⟨lt, _, _, rfl, sC, heC, hdC, htC, nC, gC, fun p hp e h1 h2 h3 => ?_⟩
                    rw [take_succ hq] at hp
                    rcases List.mem_append.mp hp with w | w
                    · exact cC p w e h1 h2 h3
                    · rw [List.mem_singleton] at w
                      subst w
                      exact dC e h1 (by rw [en]; omega) h2 h3
                · rintro σ HA ⟨lt, v8, v9, rfl, sA, heA, hdA, htA, nA, gA, cA⟩
                  rw [List.length_map, List.take_length] at cA
                  have L2 := Rg.lay_step rne L hszb hb' gA cA
                  have hlt8 : lt.length ≤ 8 := by
                    have := Rg.pigeon lt (List.range now.length) (List.nodup_append.mp nA).2.1 fun z hz => List.mem_range.mpr (gA z hz).1
                    rw [List.length_range] at this
                    omega
                  refine ⟨_, rfl, _, rfl, _, _, rfl, rfl, _, _, rfl, ?_⟩
                  exact ⟨now.length + 1 - (sz + 1), by omega, lt, sz + 1, sn ++ lt, bb, t, d, _, _, _, rfl, sA, htA, hdA, nHt, nHd, L2, hbb0, hab, nA, hlt8, rfl⟩
          · have e2 := of_decide_eq_false e2
            exact ⟨b, _, _, _, _, _, _, _, _, rfl, s6, by omega, by rw [rl] at ha; exact ha, out b hb fun m hm => Rg.lay_exit rne L (.inr (by omega)) m hm⟩
        · have e1 : ed = [] := by simpa using e1
          exact iteF ⟨b, _, _, _, _, _, _, _, _, rfl, s6, by omega, by rw [rl] at ha; exact ha, out b hb fun m hm => Rg.lay_exit rne L (.inl e1) m hm⟩
      · rintro σ H2 ⟨b, v2, v3, v4, v5, v6, v7, v8, v9, rfl, s2, hb, ha, hm⟩
        exact ⟨_, rfl, k b H2 s2 ⟨ha, hm⟩⟩
end
end G
set_option Elab.async false
set_option linter.all false
set_option maxRecDepth 100000
set_option maxHeartbeats 8000000
namespace G
open PySem PySem.Spec PyProof.Rows L2
open Rg (W)
abbrev nLawTaken : List Str := ["_law_row", "_law_many", "_law_found", "_law_cell"]
theorem scLawTaken : FnScope nLawTaken ["_law_row", "_law_many"] (defScope sLawTaken) := ⟨rfl, rfl, rfl, by decide +kernel, rfl, by decide +kernel, by decide +kernel⟩
abbrev nLawPick : List Str := ["_law_row", "_law_things"]
theorem scLawPick : FnScope nLawPick ["_law_row", "_law_things"] (defScope sLawPick) := ⟨rfl, rfl, rfl, by decide +kernel, rfl, by decide +kernel, by decide +kernel⟩
abbrev nLawFilm : List Str := ["_law_row", "_law_most", "_law_many", "_law_found", "_law_turn_here"]
theorem scLawFilm : FnScope nLawFilm ["_law_row", "_law_most", "_law_many"] (defScope sLawFilm) := ⟨rfl, rfl, rfl, by decide +kernel, rfl, by decide +kernel, by decide +kernel⟩
abbrev nLawGoal : List Str := ["_law_row", "_law_film_here", "_law_found", "_law_turn_here"]
theorem scLawGoal : FnScope nLawGoal ["_law_row", "_law_film_here"] (defScope sLawGoal) := ⟨rfl, rfl, rfl, by decide +kernel, rfl, by decide +kernel, by decide +kernel⟩
abbrev nLawDrawn : List Str := ["_law_row", "_law_film_here", "_law_most", "_law_now", "_law_found", "_law_turn_here", "_law_some", "_law_first", "_law_pair", "_law_second"]
theorem scLawDrawn : FnScope nLawDrawn ["_law_row", "_law_film_here", "_law_most"] (defScope sLawDrawn) := ⟨rfl, rfl, rfl, by decide +kernel, rfl, by decide +kernel, by decide +kernel⟩
/-- all but R is as it was -/
def But (R : Addr) (H H' : Hp) : Prop := ∀ b o, b ≠ R → H b = some o → H' b = some o
theorem But.refl (R : Addr) (H : Hp) : But R H H := fun _ _ _ h => h
theorem But.trans {R : Addr} {H H1 H2 : Hp} (a : But R H H1) (b : But R H1 H2) : But R H H2 := fun c o h q => b c o h (a c o h q)
theorem But.of {R : Addr} {H H' : Hp} (s : Same H H') : But R H H' := fun b o _ h => s b o h
theorem But.set {R : Addr} {H H' : Hp} {o : HO} (s : But R H H') : But R H (upd H' R o) := fun b u hb h => by
  rw [upd_ne hb]
  exact s b u hb h
theorem But.new {R : Addr} {H H' : Hp} {D : Addr} {o : HO} (s : But R H H') (n : H' D = none) : But R H (upd H' D o) := fun b u hb h => by
  have := s b u hb h
  rw [upd_ne (ne_of_none this n)]
  exact this
/-- the law's row: the script, the cell's number, the mixed number, the rest of a great cell -/
def RowAt (K : PySem.W.Frag) (S : Addr) (ns : List Int) (H : Hp) (R : Addr) : Prop := ∃ i r c : Int, H R = some (.lst [.ref S, .int i, .int r, .int c]) ∧ 0 ≤ i ∧ 0 ≤ r ∧ r < 2147483648 ∧ SqL K H S (ns.map V.int)
theorem row_seq {K : PySem.W.Frag} {S R : Addr} {ns : List Int} {H : Hp} {us vs : List V} (hR : H R = some (.lst (.ref S :: us))) (h : SqL K H S (ns.map V.int)) : SqL K (upd H R (.lst vs)) S (ns.map V.int) := by
  have ne : ∀ u, H S = some u → (u = .lst (ns.map V.int) ∨ ∃ o, u = .frz o (.lst (ns.map V.int))) → S ≠ R := fun u hu hh e => by
    subst e
    rw [hu] at hR
    rcases hh with e | ⟨o, e⟩
    · subst e
      have := HO.lst.inj (Option.some.inj hR)
      cases ns with
      | nil => cases this
      | cons n ns => cases this
    · subst e
      cases hR
  rcases h with (h | ⟨o, h⟩) | h
  · exact .inl (.inl (by rw [upd_ne (ne _ h (.inl rfl))]; exact h))
  · exact .inl (.inr ⟨o, by rw [upd_ne (ne _ h (.inr ⟨o, rfl⟩))]; exact h⟩)
  · exact .inr h
theorem RowAt.later {K : PySem.W.Frag} {S R : Addr} {ns : List Int} {H H' : Hp} (h : RowAt K S ns H R) (s : Same H H') : RowAt K S ns H' R := by
  obtain ⟨i, r, c, h1, h2, h3, h4, h5⟩ := h
  exact ⟨i, r, c, s _ _ h1, h2, h3, h4, s.seq h5⟩
theorem RowAt.ne {K : PySem.W.Frag} {S R D : Addr} {ns : List Int} {H : Hp} (h : RowAt K S ns H R) (n : H D = none) : R ≠ D := by
  obtain ⟨i, r, c, h1, _⟩ := h
  exact ne_of_none h1 n
def spTaken (K : PySem.W.Frag) : Sp := fun vs H Q _ => ∃ (R S : Addr) (ns : List Int) (many : Int), vs = [.ref R, .int many] ∧ 1 ≤ many ∧ many ≤ 100000 ∧ RowAt K S ns H R ∧ ∀ (t : Nat) (H' : Hp), (t : Int) < many → RowAt K S ns H' R → But R H H' → Q (nV t) H'
theorem fmod_nat {a m : Int} (h : 1 ≤ m) : ∃ t : Nat, a.fmod m = (t : Int) ∧ (t : Int) < m := by
  rw [Int.fmod_eq_emod_of_nonneg a (by omega)]
  have h1 := Int.emod_nonneg a (show m ≠ 0 by omega)
  have h2 := Int.emod_lt_of_pos a (show 0 < m by omega)
  exact ⟨(a % m).toNat, by omega, by omega⟩
section
variable {P : Program} {w : World} {K : PySem.W.Frag} {mg : Str → Option Value} {base : Heap} {f : Addr} {fd : FuncData}
theorem ok_law_taken (F : FnP K "_law_taken" sLawTaken f fd) (T : Fr mg) : FnOk P w K mg base CX0 1 f fd ["_law_row", "_law_many"] (spTaken K) := by
  refine F.ok scLawTaken (fun vs H Q E h => ?_) (fun cdv A outer s H vs Q E hr h => ?_)
  · obtain ⟨_, _, _, _, rfl, _⟩ := h
    rfl
  · obtain ⟨R, S, ns, many, rfl, m1, m2, ⟨i, r, c, hR, hi, hr0, hr1, hS⟩, k⟩ := h
    have hu := hu_of hr
    have nd := scLawTaken.nd
    refine ⟨_, PSs.nox (pss_cons (ps_if (pt_cmpR op_gt (pe_ix ix_list (pv 0) pe_int (fun _ _ => rfl)) pe_int (nomark _)) (pss_cons (ps_set (i := 2) nd rfl (Or.inl rfl) (pe_op op_modN (pe_callTy call_int1 (by rfl) T.int bt_int (pa_cons (pe_ix ix_list (pv 0) pe_int (fun _ _ => rfl)) pa_nil)) (pv 1)))
      (pss_cons (ps_asg (pe_op op_fdivN (pe_ix ix_list (pv 0) pe_int (fun _ _ => rfl)) (pv 1)) (pg_sub (pv 0) pe_int set_list))
      (pss_one (ps_ret (pv 2))))) pss_nil)
      (pss_cons (ps_asg (pe_op op_add (pe_ix ix_list (pv 0) pe_int (fun _ _ => rfl)) pe_int) (pg_sub (pv 0) pe_int set_list))
      (pss_cons (ps_if (pt_cmpR op_gt (pe_ix ix_list (pv 0) pe_int (fun _ _ => rfl)) (pe_callB call_len_seq (by rfl) T.len bt_len (pa_cons (pe_ix ix_list (pv 0) pe_int (fun _ _ => rfl)) pa_nil)) (nomark _)) (pss_cons (ps_asg (pe_op op_modN (pe_callTy call_int1 (by rfl) T.int bt_int (pa_cons (pe_op op_add (pe_op op_mul (pe_ix ix_list (pv 0) pe_int (fun _ _ => rfl)) pe_int) pe_int) pa_nil)) pe_int) (pg_sub (pv 0) pe_int set_list))
      (pss_one (ps_ret (pe_op op_modN (pe_callTy call_int1 (by rfl) T.int bt_int (pa_cons (pe_op op_fdivN (pe_ix ix_list (pv 0) pe_int (fun _ _ => rfl)) pe_int) pa_nil)) (pv 1))))) pss_nil)
      (pss_cons (ps_set (i := 3) nd rfl (Or.inl rfl) (pe_ix ix_list (pe_ix ix_list (pv 0) pe_int (fun _ _ => rfl)) (pe_op op_sub (pe_ix ix_list (pv 0) pe_int (fun _ _ => rfl)) pe_int) (fun _ _ => rfl)))
      (pss_cons (ps_asg (pe_op op_modN (pe_callTy call_int1 (by rfl) T.int bt_int (pa_cons (pe_op op_add (pe_op op_add (pe_op op_mul (pe_ix ix_list (pv 0) pe_int (fun _ _ => rfl)) pe_int) (pv 3)) pe_int) pa_nil)) pe_int) (pg_sub (pv 0) pe_int set_list))
      (pss_cons (ps_if (pt_cmpR op_ge (pv 3) (pe_op op_pow pe_int pe_int) (nomark _)) (pss_one (ps_asg (pe_op op_fdivN (pv 3) (pv 1)) (pg_sub (pv 0) pe_int set_list))) pss_nil)
      (pss_one (ps_ret (pe_op op_modN (pe_callTy call_int1 (by rfl) T.int bt_int (pa_cons (pv 3) pa_nil)) (pv 1)))))))))), ?_⟩
    have dv : many ≠ 0 ∧ many.natAbs < 1073741824 := ⟨by omega, by omega⟩
    refine ⟨_, rfl, R, _, 3, _, rfl, rfl, .of hR, atI_nat (j := 3) rfl, _, _, rfl, rfl, _, rfl, iteB (fun e => ?_) fun e => ?_⟩
    · refine ⟨_, rfl, R, _, 3, _, rfl, rfl, .of hR, atI_nat (j := 3) rfl, .inl ⟨_, rfl, _, rfl, _, _, rfl, rfl, by omega, ?_⟩⟩
      obtain ⟨t, ht, htm⟩ := fmod_nat (a := c) m1
      have ev : (fun i j : Int => V.int (i.fmod j)) c many = nV t := congrArg V.int ht
      rw [ev]
      refine ⟨_, rfl, R, _, 3, _, rfl, rfl, .of hR, atI_nat (j := 3) rfl, _, rfl, _, _, rfl, rfl, dv, _, rfl, R, _, 3, 3, rfl, rfl, hR, rfl, ?_⟩
      refine ⟨_, rfl, k t _ htm ⟨i, r, c.fdiv many, upd_same, hi, hr0, hr1, row_seq hR hS⟩ (But.refl R H).set⟩
    · refine ⟨_, rfl, R, _, 1, _, rfl, rfl, .of hR, atI_nat (j := 1) rfl, _, _, rfl, rfl, _, rfl, R, _, 1, 1, rfl, rfl, hR, rfl, ?_⟩
      have hR1 : (upd H R (.lst [.ref S, .int (i + 1), .int r, .int c])) R = some (.lst [.ref S, .int (i + 1), .int r, .int c]) := upd_same
      have hS1 : SqL K (upd H R (.lst [.ref S, .int (i + 1), .int r, .int c])) S (ns.map V.int) := row_seq hR hS
      have b1 : But R H (upd H R (.lst [.ref S, .int (i + 1), .int r, .int c])) := (But.refl R H).set
      show tSeq _ _ _ _ (upd H R (.lst [.ref S, .int (i + 1), .int r, .int c]))
      generalize upd H R (.lst [.ref S, .int (i + 1), .int r, .int c]) = H1 at hR1 hS1 b1
      refine ⟨_, rfl, R, _, 1, _, rfl, rfl, .of hR1, atI_nat (j := 1) rfl, _, rfl, R, _, 0, _, rfl, rfl, .of hR1, atI_nat (j := 0) rfl, S, _, rfl, .inl hS1, _, _, rfl, rfl, _, rfl, iteB (fun e2 => ?_) fun e2 => ?_⟩
      · -- beyond the script
        refine ⟨_, rfl, R, _, 2, _, rfl, rfl, .of hR1, atI_nat (j := 2) rfl, _, _, rfl, rfl, .inl ⟨by omega, by omega⟩, _, _, rfl, rfl, .inl ⟨_, rfl, _, _, rfl, rfl, by show (2147483647 : Int) ≠ 0; decide, ?_⟩⟩
        obtain ⟨t2, ht2, hl2⟩ := fmod_nat (a := r * 48271 + 11) (m := 2147483647) (by decide)
        have ev2 : (fun i j : Int => V.int (i.fmod j)) (r * 48271 + 11) 2147483647 = V.int (t2 : Int) := congrArg V.int ht2
        rw [ev2]
        refine ⟨_, rfl, R, _, 2, 2, rfl, rfl, hR1, rfl, ?_⟩
        have hR2 : (upd H1 R (.lst [.ref S, .int (i + 1), .int (t2 : Int), .int c])) R = some (.lst [.ref S, .int (i + 1), .int (t2 : Int), .int c]) := upd_same
        have hS2 : SqL K (upd H1 R (.lst [.ref S, .int (i + 1), .int (t2 : Int), .int c])) S (ns.map V.int) := row_seq hR1 hS1
        have b2 : But R H (upd H1 R (.lst [.ref S, .int (i + 1), .int (t2 : Int), .int c])) := b1.set
        rw [show ([V.ref S, .int (i + 1), .int r, .int c].set 2 (V.int (t2 : Int))) = [V.ref S, .int (i + 1), .int (t2 : Int), .int c] from rfl]
        generalize upd H1 R (.lst [.ref S, .int (i + 1), .int (t2 : Int), .int c]) = H2 at hR2 hS2 b2 ⊢
        refine ⟨_, rfl, R, _, 2, _, rfl, rfl, .of hR2, atI_nat (j := 2) rfl, _, _, rfl, rfl, by show (7 : Int) ≠ 0 ∧ (7 : Int).natAbs < 1073741824; decide, .inl ⟨_, rfl, _, rfl, _, _, rfl, rfl, by omega, ?_⟩⟩
        obtain ⟨t, ht, htm⟩ := fmod_nat (a := (t2 : Int).fdiv 7) m1
        have ev : (fun i j : Int => V.int (i.fmod j)) ((t2 : Int).fdiv 7) many = nV t := congrArg V.int ht
        refine (congrArg (fun v => Q v H2) ev).mpr ?_
        exact k t H2 htm ⟨i + 1, _, c, hR2, by omega, by omega, by omega, hS2⟩ b2
      · -- a cell
        have e2 := of_decide_eq_false e2
        rw [List.length_map] at e2
        have hin : i.toNat < ns.length := by omega
        have hcell : atI (ns.map V.int) (i + 1 - 1) = some (V.int ns[i.toNat]) := by
          have ei : i + 1 - 1 = ((i.toNat : Nat) : Int) := by omega
          rw [ei]
          exact atI_nat (by rw [List.getElem?_map, List.getElem?_eq_getElem hin]; rfl)
        generalize ns[i.toNat] = cell at hcell
        refine ⟨_, rfl, R, _, 0, _, rfl, rfl, .of hR1, atI_nat (j := 0) rfl, _, rfl, R, _, 1, _, rfl, rfl, .of hR1, atI_nat (j := 1) rfl, _, _, rfl, rfl, S, _, _, _, rfl, rfl, hS1, hcell, ?_⟩
        refine ⟨_, rfl, R, _, 2, _, rfl, rfl, .of hR1, atI_nat (j := 2) rfl, _, _, rfl, rfl, .inl ⟨by omega, by omega⟩, _, rfl, _, _, rfl, rfl, _, _, rfl, rfl, .inl ⟨_, rfl, _, _, rfl, rfl, by show (2147483647 : Int) ≠ 0; decide, ?_⟩⟩
        obtain ⟨t2, ht2, hl2⟩ := fmod_nat (a := r * 48271 + cell + 11) (m := 2147483647) (by decide)
        have ev2 : (fun i j : Int => V.int (i.fmod j)) (r * 48271 + cell + 11) 2147483647 = V.int (t2 : Int) := congrArg V.int ht2
        rw [ev2]
        refine ⟨_, rfl, R, _, 2, 2, rfl, rfl, hR1, rfl, ?_⟩
        have hR2 : (upd H1 R (.lst [.ref S, .int (i + 1), .int (t2 : Int), .int c])) R = some (.lst [.ref S, .int (i + 1), .int (t2 : Int), .int c]) := upd_same
        have hS2 : SqL K (upd H1 R (.lst [.ref S, .int (i + 1), .int (t2 : Int), .int c])) S (ns.map V.int) := row_seq hR1 hS1
        have b2 : But R H (upd H1 R (.lst [.ref S, .int (i + 1), .int (t2 : Int), .int c])) := b1.set
        rw [show ([V.ref S, .int (i + 1), .int r, .int c].set 2 (V.int (t2 : Int))) = [V.ref S, .int (i + 1), .int (t2 : Int), .int c] from rfl]
        generalize upd H1 R (.lst [.ref S, .int (i + 1), .int (t2 : Int), .int c]) = H2 at hR2 hS2 b2 ⊢
        obtain ⟨t, ht, htm⟩ := fmod_nat (a := cell) m1
        have ev : (fun i j : Int => V.int (i.fmod j)) cell many = nV t := congrArg V.int ht
        refine ⟨_, rfl, _, _, rfl, rfl, ⟨by decide, by decide, by decide⟩, _, _, rfl, rfl, _, rfl, iteB (fun e3 => ?_) fun e3 => ?_⟩
        · refine ⟨_, rfl, _, rfl, _, _, rfl, rfl, dv, _, rfl, R, _, 3, 3, rfl, rfl, hR2, rfl, ?_⟩
          refine ⟨_, rfl, .inl ⟨_, rfl, _, rfl, _, _, rfl, rfl, by omega, ?_⟩⟩
          refine (congrArg (fun v => Q v _) ev).mpr ?_
          exact k t _ htm ⟨i + 1, t2, cell.fdiv many, upd_same, by omega, by omega, by omega, row_seq hR2 hS2⟩ b2.set
        · refine ⟨_, rfl, .inl ⟨_, rfl, _, rfl, _, _, rfl, rfl, by omega, ?_⟩⟩
          refine (congrArg (fun v => Q v H2) ev).mpr ?_
          exact k t H2 htm ⟨i + 1, _, c, hR2, by omega, by omega, by omega, hS2⟩ b2
def spPickL (K : PySem.W.Frag) : Sp := fun vs H Q _ => ∃ (R S D : Addr) (ns : List Int) (xs : List V), vs = [.ref R, .ref D] ∧ D ≠ R ∧ H D = some (.lst xs) ∧ 1 ≤ xs.length ∧ xs.length ≤ 100000 ∧ RowAt K S ns H R ∧ ∀ (x : V) (H' : Hp), x ∈ xs → RowAt K S ns H' R → But R H H' → Q x H'
def spPickS (K : PySem.W.Frag) : Sp := fun vs H Q _ => ∃ (R S : Addr) (ns : List Int) (g : W), vs = [.ref R, txV g] ∧ g ≠ [] ∧ g.length ≤ 8 ∧ RowAt K S ns H R ∧ ∀ (c : Nat) (H' : Hp), c ∈ g → RowAt K S ns H' R → But R H H' → Q (txV [c]) H'
def spLawFilm (K : PySem.W.Frag) : Sp := fun vs H Q _ => ∃ (R S : Addr) (ns : List Int) (most many : Int), vs = [.ref R, .int most, .int many] ∧ 1 ≤ most ∧ most ≤ 8 ∧ 1 ≤ many ∧ many ≤ 8 ∧ RowAt K S ns H R ∧ ∀ (g : W) (H' : Hp), Film g → RowAt K S ns H' R → But R H H' → Q (txV g) H'
theorem ok_law_pickL (F : FnP K "_law_pick" sLawPick f fd) (T : Fr mg) (D_law_taken : Df P w K mg base "_law_taken" ["_law_row", "_law_many"] 1 (spTaken K)) : FnOk P w K mg base CX0 2 f fd ["_law_row", "_law_things"] (spPickL K) := by
  refine F.ok scLawPick (fun vs H Q E h => ?_) (fun cdv A outer s H vs Q E hr h => ?_)
  · obtain ⟨_, _, _, _, _, rfl, _⟩ := h
    rfl
  · obtain ⟨R, S, D, ns, xs, rfl, hne, hD, x1, x2, hR, k⟩ := h
    have hu := hu_of hr
    have nd := scLawPick.nd
    refine ⟨_, PSs.nox (pss_one (ps_ret (pe_ix ix_list (pv 1) (D_law_taken.call (hr.mono (by decide)) (by rfl) (pa_cons (pv 0) (pa_cons (pe_callB call_len_seq (by rfl) T.len bt_len (pa_cons (pv 1) pa_nil)) pa_nil))) (fun _ _ => rfl)))), ?_⟩
    refine ⟨_, rfl, _, rfl, _, rfl, D, _, rfl, .inl (.of hD), R, S, ns, _, rfl, by omega, by omega, hR, fun t H1 ht hR1 b1 => ?_⟩
    have hlt : t < xs.length := by omega
    exact ⟨D, xs, t, xs[t], rfl, rfl, .of (b1 _ _ hne hD), atI_nat (List.getElem?_eq_getElem hlt), k _ H1 (List.getElem_mem hlt) hR1 b1⟩
theorem ok_law_pickS (F : FnP K "_law_pick" sLawPick f fd) (T : Fr mg) (D_law_taken : Df P w K mg base "_law_taken" ["_law_row", "_law_many"] 1 (spTaken K)) : FnOk P w K mg base CX0 2 f fd ["_law_row", "_law_things"] (spPickS K) := by
  refine F.ok scLawPick (fun vs H Q E h => ?_) (fun cdv A outer s H vs Q E hr h => ?_)
  · obtain ⟨_, _, _, _, rfl, _⟩ := h
    rfl
  · obtain ⟨R, S, ns, g, rfl, hne, hl, hR, k⟩ := h
    have hu := hu_of hr
    have nd := scLawPick.nd
    have hg := List.length_pos_iff.mpr hne
    have hsz : (tx g).length ≤ sizeLine := txl (by omega)
    refine ⟨_, PSs.nox (pss_one (ps_ret (pe_ix ix_str (pv 1) (D_law_taken.call (hr.mono (by decide)) (by rfl) (pa_cons (pv 0) (pa_cons (pe_callB call_len_str (by rfl) T.len bt_len (pa_cons (pv 1) pa_nil)) pa_nil))) (fun _ _ => rfl)))), ?_⟩
    refine ⟨_, rfl, _, rfl, _, rfl, _, rfl, hsz, R, S, ns, _, rfl, ?_, ?_, hR, fun t H1 ht hR1 b1 => ?_⟩
    · rw [tx_len]; omega
    · rw [tx_len]; omega
    · rw [tx_len] at ht
      have hlt : t < g.length := by omega
      exact ⟨_, _, _, rfl, rfl, hsz, atN rfl (List.getElem?_eq_getElem hlt), k _ H1 (List.getElem_mem hlt) hR1 b1⟩
theorem letter_at {t : Nat} (h : t < 8) : atI ("abcdefgh" : Str).cps.toList (t : Int) = some (97 + t) := by
  refine atI_nat ?_
  rw [letters_list]
  have : ∀ t : Fin 8, ([97, 98, 99, 100, 101, 102, 103, 104] : List Nat)[t.val]? = some (97 + t.val) := by decide
  exact this ⟨t, h⟩
theorem ok_law_film (F : FnP K "_law_film" sLawFilm f fd) (T : Fr mg) (D_law_taken : Df P w K mg base "_law_taken" ["_law_row", "_law_many"] 1 (spTaken K)) : FnOk P w K mg base CX0 2 f fd ["_law_row", "_law_most", "_law_many"] (spLawFilm K) := by
  refine F.ok scLawFilm (fun vs H Q E h => ?_) (fun cdv A outer s H vs Q E hr h => ?_)
  · obtain ⟨_, _, _, _, _, rfl, _⟩ := h
    rfl
  · obtain ⟨R, S, ns, most, many, rfl, h1, h2, h3, h4, hR, k⟩ := h
    have hu := hu_of hr
    have nd := scLawFilm.nd
    refine ⟨_, PSs.nox (pss_cons (ps_set (i := 3) nd rfl (Or.inl rfl) pe_str)
      (pss_cons (ps_for PassesOwn.never rfl (pi_range1 (by rfl) T.range (pa_cons (pe_op op_add pe_int (D_law_taken.call (hr.mono (by decide)) (by rfl) (pa_cons (pv 0) (pa_cons (pv 1) pa_nil)))) pa_nil)) (pg_name (i := 4) nd rfl (Or.inl rfl)) (pss_one (ps_set (i := 3) nd rfl (Or.inl rfl) (pe_op op_add_str (pv 3) (pe_ix ix_str pe_str (D_law_taken.call (hr.mono (by decide)) (by rfl) (pa_cons (pv 0) (pa_cons (pv 2) pa_nil))) (fun _ _ => rfl))))))
      (pss_one (ps_ret (pv 3))))), ?_⟩
    refine ⟨_, rfl, _, rfl, R, S, ns, _, rfl, h1, by omega, hR, fun t H1 ht hR1 b1 => ?_⟩
    refine ⟨_, _, rfl, rfl, _, rfl, by omega, by omega, ?_⟩
    have en : (1 + (t : Int)).toNat = t + 1 := by omega
    rw [en]
    refine for_it walk_range (fun q σ H2 => ∃ g : W, ∃ p, σ = [some (.ref R), some (.int most), some (.int many), some (txV g), p] ∧ g.length = q ∧ (∀ c ∈ g, 97 ≤ c ∧ c ≤ 104) ∧ RowAt K S ns H2 R ∧ But R H H2)
      ⟨[], _, rfl, rfl, fun c hc => (nomatch hc), hR1, b1⟩ (fun _ _ _ _ _ => trivial) ?_ ?_
    · rintro q x σ H3 H2 hq ⟨g, p, rfl, hgl, hgo, hR2, b2⟩ ⟨rfl, ex⟩
      refine ⟨_, rfl, _, rfl, _, rfl, R, S, ns, _, rfl, h3, by omega, hR2, fun t2 H4 ht2 hR4 b4 => ?_⟩
      have hlt : t2 < 8 := by omega
      refine ⟨_, _, _, rfl, rfl, by decide, letter_at hlt, _, _, rfl, rfl, ?_, ?_⟩
      · show (tx g).length + 1 ≤ sizeLine
        exact Nat.le_trans (by rw [tx_len, hgl]; omega) (show 1000 ≤ sizeLine by decide)
      · refine ⟨g ++ [97 + t2], _, by rw [tx_one, tx_app]; rfl, by simp [hgl], fun c hc => ?_, hR4, b2.trans b4⟩
        rcases List.mem_append.mp hc with e | e
        · exact hgo c e
        · rw [List.mem_singleton] at e
          omega
    · rintro σ H2 ⟨g, p, rfl, hgl, hgo, hR2, b2⟩
      exact ⟨_, rfl, k g H2 ⟨(by intro z; subst z; cases hgl), by omega, hgo⟩ hR2 b2⟩
/-- a drawn pair -/
def PairOk (n : Nat) (H : Hp) (x : V) : Prop := ∃ (a : Addr) (i j : Nat), x = .ref a ∧ H a = some (.tup [nV i, nV j]) ∧ i < j ∧ j < n
theorem PairOk.same {n : Nat} {H H' : Hp} {x : V} (h : PairOk n H x) (s : Same H H') : PairOk n H' x := by
  obtain ⟨a, i, j, rfl, h1, h2⟩ := h
  exact ⟨a, i, j, rfl, s _ _ h1, h2⟩
theorem PairOk.but {n : Nat} {H H' : Hp} {x : V} {R : Addr} {us : List V} (h : PairOk n H x) (hR : H R = some (.lst us)) (s : But R H H') : PairOk n H' x := by
  obtain ⟨a, i, j, rfl, h1, h2⟩ := h
  exact ⟨a, i, j, rfl, s _ _ (ne_of h1 hR (by intro z; cases z)) h1, h2⟩
def spLawDrawn (K : PySem.W.Frag) : Sp := fun vs H Q _ => ∃ (R S : Addr) (ns : List Int) (f : W) (most : Int), vs = [.ref R, txV f, .int most] ∧ 1 ≤ most ∧ most ≤ 8 ∧ Film f ∧ RowAt K S ns H R ∧ ∀ (g : W) (v : V) (a : Addr) (H' : Hp), Film g → H' a = some (.tup [v, txV g]) → RowAt K S ns H' R → But R H H' → Q (.ref a) H'
theorem ok_law_drawn (F : FnP K "_law_drawn" sLawDrawn f fd) (T : Fr mg) (D_law_taken : Df P w K mg base "_law_taken" ["_law_row", "_law_many"] 1 (spTaken K)) (D_law_pick : Df P w K mg base "_law_pick" ["_law_row", "_law_things"] 2 (spPickL K)) : FnOk P w K mg base CX0 3 f fd ["_law_row", "_law_film_here", "_law_most"] (spLawDrawn K) := by
  refine F.ok scLawDrawn (fun vs H Q E h => ?_) (fun cdv A outer s H vs Q E hr h => ?_)
  · obtain ⟨_, _, _, _, _, rfl, _⟩ := h
    rfl
  · obtain ⟨R, S, ns, f, most, rfl, h1, h2, hf, hR, k⟩ := h
    have hu := hu_of hr
    have nd := scLawDrawn.nd
    refine ⟨_, PSs.nox (pss_cons (ps_asg (pe_tup (pa_cons (pv 1) (pa_cons (pe_tup pa_nil) pa_nil))) (pg_tup (by rfl) (pgs_cons (pg_name (i := 3) nd rfl (Or.inr rfl)) (pgs_cons (pg_name (i := 4) nd rfl (Or.inl rfl)) pgs_nil))))
      (pss_cons (ps_for PassesOwn.never rfl (pi_range1 (by rfl) T.range (pa_cons (pv 2) pa_nil)) (pg_name (i := 5) nd rfl (Or.inl rfl)) (pss_cons (ps_set (i := 6) nd rfl (Or.inl rfl) (pe_lst pa_nil))
      (pss_cons (ps_for PassesOwn.never rfl (pi_range1 (by rfl) T.range (pa_cons (pe_callB call_len_str (by rfl) T.len bt_len (pa_cons (pv 3) pa_nil)) pa_nil)) (pg_name (i := 7) nd rfl (Or.inr rfl)) (pss_one (ps_set (i := 6) nd rfl (Or.inl rfl) (pe_op op_cat (pv 6) (pe_lc (own := [("_law_second", 9)]) (g := (gName 9)) (tt := _) rfl nd (pi_range2 (by rfl) T.range (pa_cons (pe_op op_add (pv 7) pe_int) (pa_cons (pe_callB call_len_str (by rfl) T.len bt_len (pa_cons (pv 3) pa_nil)) pa_nil))) (blkOk_by (N := nLawDrawn) (sc := defScope sLawDrawn) (by decide +kernel)) (fun _ _ _ _ _ => pg_name (i := 9) nd rfl (Or.inl rfl)) (fun _ _ _ _ _ => pts_one (pt_cmpR op_eq (pe_ix ix_str (pv 3) (pv 7) (fun _ _ => rfl)) (pe_ix ix_str (pv 3) (pv 9) (fun _ _ => rfl)) (nomark _))) (fun _ _ _ _ _ => (pe_tup (pa_cons (pv 7) (pa_cons (pv 9) pa_nil)))))))))
      (pss_one (ps_if (pt_cmpR (op_neD hr.units) (pv 6) (pe_lst pa_nil) (nomark _)) (pss_cons (ps_set (i := 8) nd rfl (Or.inl rfl) (D_law_pick.call (hr.mono (by decide)) (by rfl) (pa_cons (pv 0) (pa_cons (pv 6) pa_nil))))
      (pss_one (ps_asg (pe_tup (pa_cons (pe_op op_add_str (pe_slice sl_str (pv 3) po_none (po_some (pe_op op_add (pe_ix ix_tup (pv 8) pe_int (fun _ _ => rfl)) pe_int))) (pe_slice sl_str (pv 3) (po_some (pe_op op_add (pe_ix ix_tup (pv 8) pe_int (fun _ _ => rfl)) pe_int)) po_none)) (pa_cons (pe_op op_catA (pv 4) (pe_tup (pa_cons (pv 8) pa_nil))) pa_nil))) (pg_tup (by rfl) (pgs_cons (pg_name (i := 3) nd rfl (Or.inr rfl)) (pgs_cons (pg_name (i := 4) nd rfl (Or.inl rfl)) pgs_nil)))))) pss_nil)))))
      (pss_one (ps_ret (pe_tup (pa_cons (pv 4) (pa_cons (pv 3) pa_nil))))))), ?_⟩
    refine ⟨_, rfl, ⟨by show 0 ≤ sizeLine; decide, fun T0 hT0 => ⟨by show 2 ≤ sizeLine; decide, fun T1 hT1 => ⟨T1, _, rfl, .of upd_same, rfl, ?_⟩⟩⟩⟩
    have hT0' : (upd H T0 (.tup [])) T0 = some (.tup []) := upd_same
    have hU := upd_new (o := .tup [txV f, .ref T0]) hT0' hT1
    have s0 : Same H (upd (upd H T0 (.tup [])) T1 (.tup [txV f, .ref T0])) := (same_upd hT0).trans (same_upd hT1)
    refine ⟨_, _, rfl, _, _, rfl, rfl, _, rfl, _, rfl, by omega, by omega, ?_⟩
    have hR0 := hR.later s0
    have b0 := But.of (R := R) s0
    show ∃ W, _
    generalize upd (upd H T0 (.tup [])) T1 (.tup [txV f, .ref T0]) = H0 at hU hR0 b0 ⊢
    refine for_it walk_range (fun q σ H2 => ∃ (g : W) (U : Addr) (us : List V), (∃ a b c d e, σ = [some (.ref R), some (txV f), some (.int most), some (txV g), some (.ref U), a, b, c, d, e]) ∧ Film g ∧ RowAt K S ns H2 R ∧ But R H H2 ∧ H2 U = some (.tup us) ∧ us.length ≤ q)
      ⟨f, T0, [], ⟨_, _, _, _, _, rfl⟩, hf, hR0, b0, hU, Nat.le_refl _⟩ (fun _ _ _ _ _ => trivial) ?_ ?_
    · rintro q x σ H1 H2 hq ⟨g, U, us, ⟨a, b, c, d, e, rfl⟩, hg, hR2, b2, hU2, hul⟩ ⟨rfl, ex⟩
      have hlg : (tx g).length ≤ sizeLine := txl (by have := hg.len; omega)
      have hgp := hg.pos
      have hgl := hg.len
      refine ⟨by show 0 ≤ sizeLine; decide, fun D0 hD0 => ?_⟩
      have hD : (upd H2 D0 (.lst [])) D0 = some (.lst []) := upd_same
      have hRD := (hR2.ne hD0).symm
      have hU3 := upd_new (o := .lst []) hU2 hD0
      have hR3 := hR2.later (same_upd hD0 (o := .lst []))
      have b3 := b2.trans (.of (same_upd hD0 (o := .lst [])))
      generalize upd H2 D0 (.lst []) = H3 at hD hU3 hR3 b3 ⊢
      refine ⟨_, rfl, _, rfl, hlg, _, rfl, by omega, by rw [tx_len]; omega, ?_⟩
      have en : (((tx g).length : Nat) : Int).toNat = g.length := by rw [tx_len]; omega
      rw [en]
      refine for_it walk_range (fun i σ H4 => ∃ (D : Addr) (xs : List V), (∃ t a b c, σ = [some (.ref R), some (txV f), some (.int most), some (txV g), some (.ref U), t, some (.ref D), a, b, c]) ∧ RowAt K S ns H4 R ∧ But R H H4 ∧ H4 U = some (.tup us) ∧ D ≠ R ∧ H4 D = some (.lst xs) ∧ xs.length ≤ 8 * i ∧ ∀ x ∈ xs, PairOk g.length H4 x)
        ⟨D0, [], ⟨_, _, _, _, rfl⟩, hR3, b3, hU3, hRD, hD, Nat.zero_le _, fun x hx => (nomatch hx)⟩ (fun _ _ _ _ _ => trivial) ?_ ?_
      · rintro i x σ H6 H4 hi ⟨D, xs, ⟨t, a, b, c, rfl⟩, hR4, b4, hU4, hDR, hD4, hxl, hxo⟩ ⟨rfl, ex⟩
        have ex := int_eq ex (show (0 : Int) + (i : Int) = ((i : Nat) : Int) by omega)
        subst ex
        refine ⟨_, rfl, _, rfl, _, _, rfl, rfl, _, rfl, _, rfl, hlg, _, _, rfl, ?_, fun D2 hD2 => ?_⟩
        · rw [tx_len]; omega
        have en2 : (((tx g).length : Nat) - ((i : Int) + 1) : Int).toNat = g.length - (i + 1) := by rw [tx_len]; omega
        rw [en2]
        refine lc_it walk_range (fun m H5 => ∃ ys, H5 D2 = some (.lst ys) ∧ Same H4 H5 ∧ ys.length ≤ m ∧ ∀ x ∈ ys, PairOk g.length H5 x) ⟨[], upd_same, same_upd hD2, Nat.le_refl _, fun x hx => (nomatch hx)⟩ (fun _ _ _ _ => trivial) ?_ ?_
        · rintro m x H7 H5 hm ⟨ys, hy, s5, yl, yo⟩ ⟨rfl, ex⟩
          have ex := int_eq ex (show (i : Int) + 1 + (m : Int) = ((i + 1 + m : Nat) : Int) by omega)
          subst ex
          have hm2 : i + 1 + m < g.length := by omega
          refine ⟨rfl, _, rfl, _, rfl, _, _, _, rfl, rfl, hlg, atN rfl (List.getElem?_eq_getElem hi), _, rfl, _, rfl, _, _, _, rfl, rfl, hlg, atN rfl (List.getElem?_eq_getElem hm2), rfl, _, rfl, iteB (fun e2 => ?_) fun e2 => ?_⟩
          · refine ⟨_, rfl, _, rfl, by show 2 ≤ sizeLine; decide, fun T hT => ⟨_, upd_new hy hT, lt_line (by omega), ?_⟩⟩
            have hTT : (upd H5 T (.tup [nV i, nV (i + 1 + m)])) T = some (.tup [nV i, nV (i + 1 + m)]) := upd_same
            have hy6 := upd_new (o := .tup [nV i, nV (i + 1 + m)]) hy hT
            have s6 := s5.trans (same_upd hT (o := .tup [nV i, nV (i + 1 + m)]))
            have yo6 : ∀ x ∈ ys, PairOk g.length (upd H5 T (.tup [nV i, nV (i + 1 + m)])) x := fun x hx => (yo x hx).same (same_upd hT)
            show ∃ ys', _
            generalize upd H5 T (.tup [nV i, nV (i + 1 + m)]) = H6 at hTT hy6 s6 yo6 ⊢
            refine ⟨ys ++ [.ref T], upd_same, same_new s6 hD2, by simp; omega, fun x hx => ?_⟩
            have lift : ∀ x, PairOk g.length H6 x → PairOk g.length (upd H6 D2 (.lst (ys ++ [.ref T]))) x := by
              rintro x ⟨a, p, r, rfl, h1, h2⟩
              exact ⟨a, p, r, rfl, by rw [upd_ne (ne_of h1 hy6 (by intro z; cases z))]; exact h1, h2⟩
            rcases List.mem_append.mp hx with e | e
            · exact lift x (yo6 x e)
            · rw [List.mem_singleton] at e
              subst e
              exact lift _ ⟨T, i, i + 1 + m, rfl, hTT, by omega, hm2⟩
          · exact ⟨ys, hy, s5, by omega, yo⟩
        · rintro H5 ⟨ys, hy, s5, yl, yo⟩
          have hD5 := s5 _ _ hD4
          refine ⟨D, D2, xs, ys, rfl, rfl, hD5, hy, ?_, fun p hp => ?_⟩
          · exact Nat.le_of_lt (lt_line (by omega))
          · refine ⟨p, xs ++ ys, ⟨_, _, _, _, rfl⟩, (hR4.later s5).later (same_upd hp), (b4.trans (.of s5)).trans (.of (same_upd hp)), upd_new (s5 _ _ hU4) hp, ((hR4.later s5).ne hp).symm, upd_same, by rw [List.length_append]; omega, fun x hx => ?_⟩
            rcases List.mem_append.mp hx with e | e
            · exact ((hxo x e).same s5).same (same_upd hp)
            · exact (yo x e).same (same_upd hp)
      · rintro σ H4 ⟨D, xs, ⟨t, a, b, c, rfl⟩, hR4, b4, hU4, hDR, hD4, hxl, hxo⟩
        refine ⟨_, rfl, by show 0 ≤ sizeLine; decide, fun Z hZ => neNil (.of (upd_new hD4 hZ)) (.of upd_same) (fun v hv => ?_) ⟨_, rfl, ?_⟩⟩
        · obtain ⟨a, p, r, rfl, h1, _⟩ := hxo v hv
          exact ok3_tup2 (upd_new h1 hZ)
        have hD6 := upd_new (o := .lst []) hD4 hZ
        have hR6 := hR4.later (same_upd hZ (o := .lst []))
        have b6 := b4.trans (.of (same_upd hZ (o := .lst [])))
        have hU6 := upd_new (o := .lst []) hU4 hZ
        have xo6 : ∀ x ∈ xs, PairOk g.length (upd H4 Z (.lst [])) x := fun x hx => (hxo x hx).same (same_upd hZ)
        generalize upd H4 Z (.lst []) = H6 at hD6 hR6 b6 hU6 xo6 ⊢
        refine iteB (fun e => ?_) fun e => ?_
        · have hpos : 1 ≤ xs.length := by
            cases xs with
            | nil => cases e
            | cons => simp
          refine ⟨_, rfl, _, rfl, R, S, D, ns, xs, rfl, hDR, hD6, hpos, by omega, hR6, fun x H8 hx hR8 b8 => ?_⟩
          have hRr := hR6
          obtain ⟨_, _, _, hRr, _⟩ := hRr
          obtain ⟨a, p, r, rfl, h1, h3, h4⟩ := (xo6 x hx).but hRr b8
          have hU8 := b8 _ _ (ne_of hU6 hRr (by intro z; cases z)) hU6
          have b8' := b6.trans b8
          refine ⟨_, rfl, _, rfl, a, _, 0, nV p, rfl, rfl, .of h1, atI_nat (j := 0) rfl, _, _, rfl, rfl, _, rfl, _, rfl, hlg, _, rfl, _, rfl, a, _, 1, nV r, rfl, rfl, .of h1, atI_nat (j := 1) rfl, _, _, rfl, rfl, _, rfl, _, rfl, hlg, _, _, rfl, rfl, ?_, ?_⟩
          · rw [cut_m g (k := p + 1) (by omega), cut_n g (k := r + 1) (by omega), tx_len, tx_len, List.length_take, List.length_drop]
            exact Nat.le_trans (by omega) (show 1000 ≤ sizeLine by decide)
          rw [cut_m g (k := p + 1) (by omega), cut_n g (k := r + 1) (by omega), tx_app]
          have hg' : Film (g.take (p + 1) ++ g.drop (r + 1)) := by
            refine ⟨fun z => ?_, ?_, fun c hc => ?_⟩
            · have := congrArg List.length z
              rw [List.length_append, List.length_take, List.length_nil] at this
              omega
            · rw [List.length_append, List.length_take, List.length_drop]
              omega
            · rcases List.mem_append.mp hc with e | e
              · exact hg.ok c (List.mem_of_mem_take e)
              · exact hg.ok c (List.mem_of_mem_drop e)
          generalize g.take (p + 1) ++ g.drop (r + 1) = g' at hg' ⊢
          refine ⟨_, rfl, _, rfl, by show 1 ≤ sizeLine; decide, fun Z hZ => ⟨U, Z, us, _, rfl, rfl, .of (upd_new hU8 hZ), .of upd_same, ?_, fun e0 => ?_, fun e0 e1 => (nomatch e1), fun e0 e1 P hP => ?_⟩⟩
          · exact Nat.le_of_lt (lt_line (by show us.length + 1 ≤ 1000; omega))
          · refine ⟨by show 2 ≤ sizeLine; decide, fun T hT => ⟨T, _, rfl, .of upd_same, rfl, _, _, rfl, _, _, rfl, rfl, ?_⟩⟩
            refine ⟨g', Z, _, ⟨_, _, _, _, _, rfl⟩, hg', (hR8.later (same_upd hZ)).later (same_upd hT), (b8'.trans (.of (same_upd hZ))).trans (.of (same_upd hT)), upd_new upd_same hT, by show 1 ≤ q + 1; omega⟩
          · refine ⟨by show 2 ≤ sizeLine; decide, fun T hT => ⟨T, _, rfl, .of upd_same, rfl, _, _, rfl, _, _, rfl, rfl, ?_⟩⟩
            refine ⟨g', P, _, ⟨_, _, _, _, _, rfl⟩, hg', ((hR8.later (same_upd hZ)).later (same_upd hP)).later (same_upd hT), ((b8'.trans (.of (same_upd hZ))).trans (.of (same_upd hP))).trans (.of (same_upd hT)), upd_new upd_same hT, by simp; omega⟩
        · exact ⟨g, U, us, ⟨_, _, _, _, _, rfl⟩, hg, hR6, b6, hU6, by omega⟩
    · rintro σ H2 ⟨g, U, us, ⟨a, b, c, d, e, rfl⟩, hg, hR2, b2, hU2, hul⟩
      refine ⟨_, rfl, _, rfl, by show 2 ≤ sizeLine; decide, fun T hT => k g _ T _ hg upd_same (hR2.later (same_upd hT)) (b2.trans (.of (same_upd hT)))⟩
def spLawGoal (K : PySem.W.Frag) : Sp := fun vs H Q _ => ∃ (R S : Addr) (ns : List Int) (f : W), vs = [.ref R, txV f] ∧ Film f ∧ RowAt K S ns H R ∧ ∀ (g : W) (H' : Hp), Film g → RowAt K S ns H' R → But R H H' → Q (txV g) H'
theorem ok_law_goal (F : FnP K "_law_goal" sLawGoal f fd) (T : Fr mg) (D_law_taken : Df P w K mg base "_law_taken" ["_law_row", "_law_many"] 1 (spTaken K)) (D_law_pick : Df P w K mg base "_law_pick" ["_law_row", "_law_things"] 2 (spPickS K)) (D_law_drawn : Df P w K mg base "_law_drawn" ["_law_row", "_law_film_here", "_law_most"] 3 (spLawDrawn K)) : FnOk P w K mg base CX0 4 f fd ["_law_row", "_law_film_here"] (spLawGoal K) := by
  refine F.ok scLawGoal (fun vs H Q E h => ?_) (fun cdv A outer s H vs Q E hr h => ?_)
  · obtain ⟨_, _, _, _, rfl, _⟩ := h
    rfl
  · obtain ⟨R, S, ns, f, rfl, hf, hR, k⟩ := h
    have hu := hu_of hr
    have nd := scLawGoal.nd
    refine ⟨_, PSs.nox (pss_cons (ps_if (pt_cmpR op_gt (D_law_taken.call (hr.mono (by decide)) (by rfl) (pa_cons (pv 0) (pa_cons pe_int pa_nil))) pe_int (nomark _)) (pss_one (ps_ret (pe_ix ix_tup (D_law_drawn.call (hr.mono (by decide)) (by rfl) (pa_cons (pv 0) (pa_cons (pv 1) (pa_cons (pe_op op_add pe_int (D_law_taken.call (hr.mono (by decide)) (by rfl) (pa_cons (pv 0) (pa_cons pe_int pa_nil)))) pa_nil)))) pe_int (fun _ _ => rfl)))) pss_nil)
      (pss_cons (ps_set (i := 2) nd rfl (Or.inl rfl) pe_str)
      (pss_cons (ps_for PassesOwn.never rfl (pi_range1 (by rfl) T.range (pa_cons (pe_op op_add pe_int (D_law_taken.call (hr.mono (by decide)) (by rfl) (pa_cons (pv 0) (pa_cons (pe_callB call_len_str (by rfl) T.len bt_len (pa_cons (pv 1) pa_nil)) pa_nil)))) pa_nil)) (pg_name (i := 3) nd rfl (Or.inl rfl)) (pss_one (ps_set (i := 2) nd rfl (Or.inl rfl) (pe_op op_add_str (pv 2) (D_law_pick.call (hr.mono (by decide)) (by rfl) (pa_cons (pv 0) (pa_cons (pv 1) pa_nil)))))))
      (pss_one (ps_ret (pv 2)))))), ?_⟩
    have hl := hf.len
    have hp := hf.pos
    have hlf : (tx f).length ≤ sizeLine := txl (by omega)
    refine ⟨_, rfl, R, S, ns, _, rfl, by decide, by decide, hR, fun t H1 ht hR1 b1 => ?_⟩
    refine ⟨_, _, rfl, rfl, _, rfl, iteB (fun e => ?_) fun e => ?_⟩
    · refine ⟨_, rfl, _, rfl, _, rfl, R, S, ns, _, rfl, by decide, by decide, hR1, fun t2 H2 ht2 hR2 b2 => ?_⟩
      refine ⟨_, _, rfl, rfl, R, S, ns, f, _, rfl, by omega, by omega, hf, hR2, fun g v a H3 hg ha hR3 b3 => ?_⟩
      exact ⟨a, _, 1, txV g, rfl, rfl, .of ha, atI_nat (j := 1) rfl, k g H3 hg hR3 ((b1.trans b2).trans b3)⟩
    · refine ⟨_, rfl, _, rfl, _, rfl, hlf, R, S, ns, _, rfl, by rw [tx_len]; omega, by rw [tx_len]; omega, hR1, fun t2 H2 ht2 hR2 b2 => ?_⟩
      rw [tx_len] at ht2
      refine ⟨_, _, rfl, rfl, _, rfl, by omega, by omega, ?_⟩
      have en : (1 + (t2 : Int)).toNat = t2 + 1 := by omega
      rw [en]
      refine for_it walk_range (fun q σ H2 => ∃ g : W, ∃ p, σ = [some (.ref R), some (txV f), some (txV g), p] ∧ g.length = q ∧ (∀ c ∈ g, 97 ≤ c ∧ c ≤ 104) ∧ RowAt K S ns H2 R ∧ But R H H2)
        ⟨[], _, rfl, rfl, fun c hc => (nomatch hc), hR2, b1.trans b2⟩ (fun _ _ _ _ _ => trivial) ?_ ?_
      · rintro q x σ H3 H2 hq ⟨g, p, rfl, hgl, hgo, hR2, b2⟩ ⟨rfl, ex⟩
        refine ⟨_, rfl, _, rfl, _, rfl, R, S, ns, f, rfl, hf.ne, hl, hR2, fun c H4 hc hR4 b4 => ?_⟩
        refine ⟨_, _, rfl, rfl, ?_, ?_⟩
        · show (tx g).length + 1 ≤ sizeLine
          exact Nat.le_trans (by rw [tx_len, hgl]; omega) (show 1000 ≤ sizeLine by decide)
        · refine ⟨g ++ [c], _, by rw [tx_app]; rfl, by simp [hgl], fun c' hc' => ?_, hR4, b2.trans b4⟩
          rcases List.mem_append.mp hc' with e | e
          · exact hgo c' e
          · rw [List.mem_singleton] at e
            subst e
            exact hf.ok _ hc
      · rintro σ H2 ⟨g, p, rfl, hgl, hgo, hR2, b2⟩
        exact ⟨_, rfl, k g H2 ⟨(by intro z; subst z; cases hgl), by omega, hgo⟩ hR2 b2⟩
end
end G
set_option Elab.async false
set_option linter.all false
set_option maxRecDepth 100000
set_option maxHeartbeats 8000000
namespace G
open PySem PySem.Spec PyProof.Rows L2
open Rg (W)
abbrev nLawIs : List Str := ["_law_found", "_law_due"]
theorem scLawIs : FnScope nLawIs ["_law_found", "_law_due"] (defScope sLawIs) := ⟨rfl, rfl, rfl, by decide +kernel, rfl, by decide +kernel, by decide +kernel⟩
abbrev nLawAlike : List Str := ["_law_found", "_law_due", "_law_k"]
theorem scLawAlike : FnScope nLawAlike ["_law_found", "_law_due"] (defScope sLawAlike) := ⟨rfl, rfl, rfl, by decide +kernel, rfl, by decide +kernel, by decide +kernel⟩
def spLawIs : Sp := fun vs H Q _ => ∃ b c : Bool, vs = [.bl b, .bl c] ∧ Q (.bl (decide (b = c))) H
def Atm (v : V) : Prop := (∃ z : W, v = txV z) ∨ (∃ i : Int, v = .int i) ∨ v = .non
/-- alike, to a depth -/
def Alk : Nat → Hp → V → V → Prop
  | 0, _, _, _ => False
  | n + 1, H, x, y => (x = y ∧ Atm x) ∨ ∃ (a b : Addr) (xs ys : List V), x = .ref a ∧ y = .ref b ∧ H a = some (.lst xs) ∧ H b = some (.lst ys) ∧ xs.length = ys.length ∧ xs.length ≤ 100000 ∧ ∀ (i : Nat) (u v : V), xs[i]? = some u → ys[i]? = some v → Alk n H u v
theorem Alk.same : ∀ {n : Nat} {H H' : Hp} {x y : V}, Alk n H x y → Same H H' → Alk n H' x y
  | 0, _, _, _, _, h, _ => h.elim
  | n + 1, _, _, _, _, .inl h, _ => .inl h
  | n + 1, _, _, _, _, .inr ⟨a, b, xs, ys, h1, h2, h3, h4, h5, h6, h7⟩, s => .inr ⟨a, b, xs, ys, h1, h2, s _ _ h3, s _ _ h4, h5, h6, fun i u v hu hv => (h7 i u v hu hv).same s⟩
theorem Alk.atom {n : Nat} {H : Hp} {x : V} (h : Atm x) : Alk (n + 1) H x x := .inl ⟨rfl, h⟩
theorem Alk.texts {n : Nat} {H : Hp} {a b : Addr} {xs : List W} (ha : H a = some (.lst (xs.map txV))) (hb : H b = some (.lst (xs.map txV))) (hl : xs.length ≤ 100000) : Alk (n + 2) H (.ref a) (.ref b) := by
  refine .inr ⟨a, b, _, _, rfl, rfl, ha, hb, rfl, by rw [List.length_map]; exact hl, fun i u v hu hv => ?_⟩
  rw [hu] at hv
  obtain rfl := Option.some.inj hv
  obtain ⟨z, _, rfl⟩ := at_map hu
  exact .atom (.inl ⟨z, rfl⟩)
def spAlike (n : Nat) : Sp := fun vs H Q _ => ∃ x y, vs = [x, y] ∧ Alk n H x y ∧ ∀ H', Same H H' → Q (.bl true) H'
section
variable {P : Program} {w : World} {K : PySem.W.Frag} {mg : Str → Option Value} {base : Heap} {f : Addr} {fd : FuncData}
theorem ok_law_is (F : FnP K "_law_is" sLawIs f fd) (T : Fr mg) : FnOk P w K mg base CX0 1 f fd ["_law_found", "_law_due"] spLawIs := by
  refine F.ok scLawIs (fun vs H Q E h => ?_) (fun cdv A outer s H vs Q E hr h => ?_)
  · obtain ⟨_, _, rfl, _⟩ := h
    rfl
  · obtain ⟨b, c, rfl, k⟩ := h
    have hu := hu_of hr
    have nd := scLawIs.nd
    refine ⟨_, PSs.nox (pss_one (ps_ret (pe_and (pe_callB call_isi (by rfl) T.isinstance bt_isinstance (pa_cons (pv 0) (pa_cons (pe_bltn (v := .ty "bool") (by rfl) T.bool bt_bool rfl) pa_nil))) (pe_one (pe_cmpR op_eq (pv 0) (pv 1) (nomark _)))))), ?_⟩
    refine ⟨_, rfl, _, _, .type "bool", .type "bool", true, rfl, .ty "bool", .base (.bl _), kit_ty (by decide +kernel), true, rfl, iteY rfl ⟨_, rfl, _, rfl, rfl, ?_⟩⟩
    have e : decide (V.bl b = V.bl c) = decide (b = c) := by cases b <;> cases c <;> rfl
    rw [e]
    exact k
theorem ok_law_alike0 (F : FnP K "_law_alike" sLawAlike f fd) : FnOk P w K mg base CX0 1 f fd ["_law_found", "_law_due"] (spAlike 0) := by
  refine F.ok scLawAlike (fun vs H Q E h => ?_) (fun cdv A outer s H vs Q E hr h => ?_)
  · obtain ⟨_, _, rfl, _⟩ := h
    rfl
  · obtain ⟨_, _, _, h, _⟩ := h
    exact h.elim
theorem isT_no {K : PySem.W.Frag} {a : String} (h1 : kitB a "tuple" = some false) (h2 : kitB a "list" = some false) : PySem.W.kitAny K (.type a) [.type "tuple", .type "list"] = some false :=
  kitAny_cons (b := false) (kit_ty h1) (fun _ => kitAny_cons (b := false) (kit_ty h2) (fun _ => rfl) (fun z => nomatch z)) (fun z => nomatch z)
theorem isT_yes {K : PySem.W.Frag} : PySem.W.kitAny K (.type "list") [.type "tuple", .type "list"] = some true :=
  kitAny_cons (b := false) (kit_ty (by decide +kernel)) (fun _ => kitAny_cons (b := true) (kit_ty (by decide +kernel)) (fun z => nomatch z) (fun _ => rfl)) (fun z => nomatch z)
theorem twoTy : Paired ClsV [.ty "tuple", .ty "list"] [.type "tuple", .type "list"] := .cons (.ty _) (.cons (.ty _) .nil)
theorem ok_law_alike {n : Nat} (F : FnP K "_law_alike" sLawAlike f fd) (T : Fr mg) (D_law_alike : Df P w K mg base "_law_alike" ["_law_found", "_law_due"] (n + 1) (spAlike n)) : FnOk P w K mg base CX0 (n + 2) f fd ["_law_found", "_law_due"] (spAlike (n + 1)) := by
  refine F.ok scLawAlike (fun vs H Q E h => ?_) (fun cdv A outer s H vs Q E hr h => ?_)
  · obtain ⟨_, _, rfl, _⟩ := h
    rfl
  · obtain ⟨x, y, rfl, h, k⟩ := h
    have hu := hu_of hr
    have nd := scLawAlike.nd
    refine ⟨_, PSs.nox (pss_cons (ps_if (pt_val (pe_callB call_isiT (by rfl) T.isinstance bt_isinstance (pa_cons (pv 1) (pa_cons (pe_tup (pa_cons (pe_bltn (v := .ty "tuple") (by rfl) T.tuple bt_tuple rfl) (pa_cons (pe_bltn (v := .ty "list") (by rfl) T.list bt_list rfl) pa_nil))) pa_nil)))) (pss_cons (ps_if (PW.pt (pw_or (pt_not (pt_val (pe_callB call_isiT (by rfl) T.isinstance bt_isinstance (pa_cons (pv 0) (pa_cons (pe_tup (pa_cons (pe_bltn (v := .ty "tuple") (by rfl) T.tuple bt_tuple rfl) (pa_cons (pe_bltn (v := .ty "list") (by rfl) T.list bt_list rfl) pa_nil))) pa_nil))))) (pw_or1 (pt_cmpR op_ne (pe_callB call_isi (by rfl) T.isinstance bt_isinstance (pa_cons (pv 0) (pa_cons (pe_bltn (v := .ty "list") (by rfl) T.list bt_list rfl) pa_nil))) (pe_callB call_isi (by rfl) T.isinstance bt_isinstance (pa_cons (pv 1) (pa_cons (pe_bltn (v := .ty "list") (by rfl) T.list bt_list rfl) pa_nil))) (nomark _))))) (pss_one (ps_ret pe_bl)) pss_nil)
      (pss_cons (ps_if (pt_cmpR op_ne (pe_callB call_len_seq (by rfl) T.len bt_len (pa_cons (pv 0) pa_nil)) (pe_callB call_len_seq (by rfl) T.len bt_len (pa_cons (pv 1) pa_nil)) (nomark _)) (pss_one (ps_ret pe_bl)) pss_nil)
      (pss_one (ps_ret (pe_cmpR (op_eqD hr.units) (pe_lc (own := [("_law_k", 2)]) (g := (gName 2)) (tt := _) rfl nd (pi_range1 (by rfl) T.range (pa_cons (pe_callB call_len_seq (by rfl) T.len bt_len (pa_cons (pv 1) pa_nil)) pa_nil)) (blkOk_by (N := nLawAlike) (sc := defScope sLawAlike) (by decide +kernel)) (fun _ _ _ _ _ => pg_name (i := 2) nd rfl (Or.inl rfl)) (fun _ _ _ _ _ => pts_one (pt_not (pt_val (D_law_alike.call hr (by rfl) (pa_cons (pe_ix (show IxR _ (rIxL K) from ix_list) (pv 0) (pv 2) (fun _ _ => rfl)) (pa_cons (pe_ix (show IxR _ (rIxL K) from ix_list) (pv 1) (pv 2) (fun _ _ => rfl)) pa_nil)))))) (fun _ _ _ _ _ => (pv 2))) (pe_lst pa_nil) (nomark _)))))) pss_nil)
      (pss_cons (ps_if (PW.pt (pw_or (pt_cmpR op_isN (pv 1) pe_non (nomark _)) (pw_or1 (pt_val (pe_callB call_isi (by rfl) T.isinstance bt_isinstance (pa_cons (pv 1) (pa_cons (pe_bltn (v := .ty "str") (by rfl) T.str bt_str rfl) pa_nil))))))) (pss_one (ps_ret (pe_and (pe_cmpR op_eq (pv 0) (pv 1) (nomark _)) (pe_one (pe_cmpR op_eq (pe_callB call_isi (by rfl) T.isinstance bt_isinstance (pa_cons (pv 0) (pa_cons (pe_bltn (v := .ty "str") (by rfl) T.str bt_str rfl) pa_nil))) (pe_callB call_isi (by rfl) T.isinstance bt_isinstance (pa_cons (pv 1) (pa_cons (pe_bltn (v := .ty "str") (by rfl) T.str bt_str rfl) pa_nil))) (nomark _)))))) pss_nil)
      (pss_one (ps_ret (pe_and (pe_callB call_isi (by rfl) T.isinstance bt_isinstance (pa_cons (pv 0) (pa_cons (pe_bltn (v := .ty "int") (by rfl) T.int bt_int rfl) pa_nil))) (pe_and (pe_cmpR op_eq (pe_callB call_isi (by rfl) T.isinstance bt_isinstance (pa_cons (pv 0) (pa_cons (pe_bltn (v := .ty "bool") (by rfl) T.bool bt_bool rfl) pa_nil))) (pe_callB call_isi (by rfl) T.isinstance bt_isinstance (pa_cons (pv 1) (pa_cons (pe_bltn (v := .ty "bool") (by rfl) T.bool bt_bool rfl) pa_nil))) (nomark _)) (pe_one (pe_cmpR op_eq (pv 0) (pv 1) (nomark _))))))))), ?_⟩
    rcases h with ⟨rfl, h⟩ | ⟨a, b, xs, ys, rfl, rfl, ha, hb, hlen, hl, hi⟩
    · rcases h with ⟨z, rfl⟩ | ⟨i, rfl⟩ | rfl
      · refine ⟨_, rfl, by show 2 ≤ sizeLine; decide, fun T1 h1 => ⟨_, T1, _, .type "str", _, false, rfl, upd_same, twoTy, .base (.str _), isT_no (by decide +kernel) (by decide +kernel), false, rfl, iteF ?_⟩⟩
        have s1 : Same H (upd H T1 (.tup [.ty "tuple", .ty "list"])) := same_upd h1
        refine ⟨_, rfl, rfl, _, rfl, iteN (decide_eq_false (by intro z; cases z)) ⟨_, rfl, _, _, .type "str", .type "str", true, rfl, .ty "str", .base (.str _), kit_ty (by decide +kernel), true, rfl, iteT ?_⟩⟩
        refine ⟨_, rfl, _, rfl, rfl, _, rfl, iteY (decide_eq_true rfl) ⟨_, rfl, _, _, .type "str", .type "str", true, rfl, .ty "str", .base (.str _), kit_ty (by decide +kernel), _, rfl, _, _, .type "str", .type "str", true, rfl, .ty "str", .base (.str _), kit_ty (by decide +kernel), rfl, k _ s1⟩⟩
      · refine ⟨_, rfl, by show 2 ≤ sizeLine; decide, fun T1 h1 => ⟨_, T1, _, .type "int", _, false, rfl, upd_same, twoTy, .base (.int _), isT_no (by decide +kernel) (by decide +kernel), false, rfl, iteF ?_⟩⟩
        have s1 : Same H (upd H T1 (.tup [.ty "tuple", .ty "list"])) := same_upd h1
        refine ⟨_, rfl, rfl, _, rfl, iteN (decide_eq_false (by intro z; cases z)) ⟨_, rfl, _, _, .type "int", .type "str", false, rfl, .ty "str", .base (.int _), kit_ty (by decide +kernel), false, rfl, iteF ?_⟩⟩
        refine ⟨_, rfl, _, _, .type "int", .type "int", true, rfl, .ty "int", .base (.int _), kit_ty (by decide +kernel), true, rfl, iteT ?_⟩
        refine ⟨_, rfl, _, _, .type "int", .type "bool", false, rfl, .ty "bool", .base (.int _), kit_ty (by decide +kernel), _, rfl, _, _, .type "int", .type "bool", false, rfl, .ty "bool", .base (.int _), kit_ty (by decide +kernel), rfl, _, rfl, iteY (decide_eq_true rfl) ?_⟩
        exact ⟨_, rfl, _, rfl, rfl, by rw [decide_eq_true rfl]; exact k _ s1⟩
      · refine ⟨_, rfl, by show 2 ≤ sizeLine; decide, fun T1 h1 => ⟨_, T1, _, .type "NoneType", _, false, rfl, upd_same, twoTy, .base .non, isT_no (by decide +kernel) (by decide +kernel), false, rfl, iteF ?_⟩⟩
        have s1 : Same H (upd H T1 (.tup [.ty "tuple", .ty "list"])) := same_upd h1
        refine ⟨_, rfl, rfl, _, rfl, iteY (decide_eq_true rfl) ?_⟩
        refine ⟨_, rfl, _, rfl, rfl, _, rfl, iteY (decide_eq_true rfl) ⟨_, rfl, _, _, .type "NoneType", .type "str", false, rfl, .ty "str", .base .non, kit_ty (by decide +kernel), _, rfl, _, _, .type "NoneType", .type "str", false, rfl, .ty "str", .base .non, kit_ty (by decide +kernel), rfl, k _ s1⟩⟩
    · refine ⟨_, rfl, by show 2 ≤ sizeLine; decide, fun T1 h1 => ⟨_, T1, _, .type "list", _, true, rfl, upd_same, twoTy, .base (.lst (upd_new hb h1)), isT_yes, true, rfl, iteT ?_⟩⟩
      have s1 : Same H (upd H T1 (.tup [.ty "tuple", .ty "list"])) := same_upd h1
      generalize upd H T1 (.tup [.ty "tuple", .ty "list"]) = H1 at s1 ⊢
      refine ⟨_, rfl, by show 2 ≤ sizeLine; decide, fun T2 h2 => ⟨_, T2, _, .type "list", _, true, rfl, upd_same, twoTy, .base (.lst (upd_new (s1 _ _ ha) h2)), isT_yes, true, rfl, iteF ?_⟩⟩
      have s2 : Same H (upd H1 T2 (.tup [.ty "tuple", .ty "list"])) := s1.trans (same_upd h2)
      generalize upd H1 T2 (.tup [.ty "tuple", .ty "list"]) = H2 at s2 ⊢
      have ha2 := s2 _ _ ha
      have hb2 := s2 _ _ hb
      refine ⟨_, rfl, _, _, .type "list", .type "list", true, rfl, .ty "list", .base (.lst ha2), kit_ty (by decide +kernel), _, rfl, _, _, .type "list", .type "list", true, rfl, .ty "list", .base (.lst hb2), kit_ty (by decide +kernel), rfl, _, rfl, iteF ?_⟩
      refine ⟨_, rfl, a, xs, rfl, .inl (.of ha2), _, rfl, b, ys, rfl, .inl (.of hb2), rfl, _, rfl, iteN (by rw [hlen]; simp) ?_⟩
      refine ⟨_, rfl, b, ys, rfl, .inl (.of hb2), _, rfl, by omega, by omega, fun D hD => ?_⟩
      have en : ((ys.length : Nat) : Int).toNat = ys.length := rfl
      rw [en]
      refine lc_it walk_range (fun _ H5 => H5 D = some (.lst []) ∧ Same H2 H5) ⟨upd_same, same_upd hD⟩ (fun _ _ _ _ => trivial) ?_ ?_
      · rintro m x H7 H5 hm ⟨hy, s5⟩ ⟨rfl, ex⟩
        have ex := int_eq ex (show (0 : Int) + (m : Int) = ((m : Nat) : Int) by omega)
        subst ex
        have hmx : m < xs.length := by omega
        refine ⟨rfl, _, rfl, _, rfl, a, xs, m, _, rfl, rfl, .of (s5 _ _ ha2), atI_nat (List.getElem?_eq_getElem hmx), _, rfl, _, rfl, b, ys, m, _, rfl, rfl, .of (s5 _ _ hb2), atI_nat (List.getElem?_eq_getElem hm), _, _, rfl, ?_, fun H6 s6 => ?_⟩
        · exact (hi m _ _ (List.getElem?_eq_getElem hmx) (List.getElem?_eq_getElem hm)).same (s2.trans s5)
        · exact ⟨_, rfl, iteF ⟨s6 _ _ hy, s5.trans s6⟩⟩
      · rintro H5 ⟨hy, s5⟩
        exact ⟨by show 0 ≤ sizeLine; decide, fun Z hZ => eqNil (.of (upd_new hy hZ)) (.of upd_same) (fun v hv => (nomatch hv)) (k _ ((s2.trans s5).trans (same_upd hZ)))⟩
end
end G
set_option linter.all false
/-! The plain law, part 10: the levels of the rings that come. -/
namespace Rg
def keys (l : List (W × Nat)) : List W := l.map (·.1)
theorem mem_keys {l : List (W × Nat)} {x : W} : x ∈ keys l ↔ ∃ k, (x, k) ∈ l := by
  simp [keys]
theorem lookup_some : ∀ {l : List (W × Nat)} {x : W} {k : Nat}, l.lookup x = some k → (x, k) ∈ l
  | [], _, _, h => by cases h
  | (y, j) :: l, x, k, h => by
    rw [List.lookup_cons] at h
    by_cases e : x = y
    · subst e
      simp only [beq_self_eq_true] at h
      cases h
      exact List.mem_cons_self
    · rw [show (x == y) = false from beq_eq_false_iff_ne.mpr e] at h
      exact List.mem_cons_of_mem _ (lookup_some h)
theorem lookup_none : ∀ {l : List (W × Nat)} {x : W}, l.lookup x = none ↔ x ∉ keys l
  | [], _ => by simp [keys]
  | (y, j) :: l, x => by
    rw [List.lookup_cons]
    by_cases e : x = y
    · subst e
      simp [keys]
    · rw [show (x == y) = false from beq_eq_false_iff_ne.mpr e]
      have ih := lookup_none (l := l) (x := x)
      simp only [keys, List.map_cons, List.mem_cons, not_or] at ih ⊢
      exact ih.trans ⟨fun h => ⟨e, h⟩, fun h => h.2⟩
/-- all that come in s steps, each with its least count -/
structure Lv (N : W) (s : Nat) (l : List (W × Nat)) (es : List W) : Prop where
  nd : (keys l).Nodup
  ok : ∀ x k, (x, k) ∈ l → Steps k N x ∧ k ≤ s ∧ ∀ j, Steps j N x → k ≤ j
  all : ∀ j x, Steps j N x → j ≤ s → x ∈ keys l
  ed : ∀ x, x ∈ es ↔ (x, s) ∈ l
  ne : es.Nodup
theorem steps_zero {N x : W} (h : Steps 0 N x) : x = N := by
  cases h
  rfl
theorem lv_start (N : W) : Lv N 0 [(N, 0)] [N] := by
  refine ⟨by simp [keys], fun x k h => ?_, fun j x h hj => ?_, fun x => by simp, by simp⟩
  · obtain ⟨rfl, rfl⟩ := Prod.mk.inj (List.mem_singleton.mp h)
    exact ⟨.zero _, Nat.le_refl _, fun j _ => Nat.zero_le _⟩
  · obtain rfl : j = 0 := by omega
    rw [steps_zero h]
    simp [keys]
/-- half way to the next level -/
structure Md (N : W) (s : Nat) (l : List (W × Nat)) (es ls : List W) : Prop where
  nd : ls.Nodup
  dis : ∀ z ∈ ls, z ∉ keys l
  src : ∀ z ∈ ls, ∃ x ∈ es, z ∈ rn x
def put (l : List (W × Nat)) (ls : List W) (k : Nat) : List (W × Nat) := l ++ ls.map fun z => (z, k)
theorem keys_put (l : List (W × Nat)) (ls : List W) (k : Nat) : keys (put l ls k) = keys l ++ ls := by
  simp [keys, put, List.map_map, Function.comp_def]
theorem put_nil (l : List (W × Nat)) (k : Nat) : put l [] k = l := by simp [put]
theorem put_snoc (l : List (W × Nat)) (ls : List W) (z : W) (k : Nat) : put l (ls ++ [z]) k = put l ls k ++ [(z, k)] := by simp [put]
theorem Md.nodup {N : W} {s : Nat} {l : List (W × Nat)} {es ls : List W} (v : Lv N s l es) (m : Md N s l es ls) : (keys l ++ ls).Nodup :=
  List.nodup_append.mpr ⟨v.nd, m.nd, fun a ha b hb e => m.dis b hb (e ▸ ha)⟩
theorem Md.steps {N : W} {s : Nat} {l : List (W × Nat)} {es ls : List W} (v : Lv N s l es) (m : Md N s l es ls) : ∀ z ∈ ls, Steps (s + 1) N z := fun z hz => by
  obtain ⟨x, hx, hzx⟩ := m.src z hz
  exact .succ (v.ok x s ((v.ed x).mp hx)).1 hzx
theorem Md.snoc {N : W} {s : Nat} {l : List (W × Nat)} {es ls : List W} (m : Md N s l es ls) {x z : W} (hx : x ∈ es) (hz : z ∈ rn x) (h1 : z ∉ keys l) (h2 : z ∉ ls) : Md N s l es (ls ++ [z]) := by
  refine ⟨List.nodup_append.mpr ⟨m.nd, by simp, fun a ha b hb e => by rw [List.mem_singleton] at hb; rw [e, hb] at ha; exact h2 ha⟩, fun y hy => ?_, fun y hy => ?_⟩
  · rcases List.mem_append.mp hy with q | q
    · exact m.dis y q
    · rw [List.mem_singleton] at q
      rw [q]; exact h1
  · rcases List.mem_append.mp hy with q | q
    · exact m.src y q
    · rw [List.mem_singleton] at q
      rw [q]; exact ⟨x, hx, hz⟩
theorem md_nil (N : W) (s : Nat) (l : List (W × Nat)) (es : List W) : Md N s l es [] := ⟨List.nodup_nil, fun z h => (nomatch h), fun z h => (nomatch h)⟩
theorem lv_step {N : W} {s : Nat} {l : List (W × Nat)} {es ls : List W} (v : Lv N s l es) (m : Md N s l es ls) (c : ∀ x ∈ es, ∀ y ∈ rn x, y ∈ keys l ++ ls) : Lv N (s + 1) (put l ls (s + 1)) ls := by
  refine ⟨by rw [keys_put]; exact m.nodup v, fun x k h => ?_, fun j x h hj => ?_, fun x => ?_, m.nd⟩
  · rcases List.mem_append.mp h with q | q
    · obtain ⟨h1, h2, h3⟩ := v.ok x k q
      exact ⟨h1, by omega, h3⟩
    · obtain ⟨z, hz, e⟩ := List.mem_map.mp q
      obtain ⟨rfl, rfl⟩ := Prod.mk.inj e
      refine ⟨m.steps v z hz, Nat.le_refl _, fun j hj => ?_⟩
      rcases Nat.lt_or_ge s j with q | q
      · exact q
      · exact absurd (v.all j z hj q) (m.dis z hz)
  · rw [keys_put]
    rcases Nat.lt_or_ge s j with q | q
    · obtain rfl : j = s + 1 := by omega
      cases h with
      | succ r hx =>
        obtain ⟨k, hk⟩ := mem_keys.mp (v.all s _ r (Nat.le_refl _))
        obtain ⟨h1, h2, h3⟩ := v.ok _ k hk
        rcases Nat.lt_or_ge k s with q2 | q2
        · exact List.mem_append_left _ (v.all (k + 1) x (.succ h1 hx) q2)
        · obtain rfl : k = s := by omega
          exact c _ ((v.ed _).mpr hk) x hx
    · exact List.mem_append_left _ (v.all j x h q)
  · constructor
    · intro h
      exact List.mem_append_right _ (List.mem_map.mpr ⟨x, h, rfl⟩)
    · intro h
      rcases List.mem_append.mp h with q | q
      · have := (v.ok x _ q).2.1
        omega
      · obtain ⟨z, hz, e⟩ := List.mem_map.mp q
        obtain ⟨rfl, _⟩ := Prod.mk.inj e
        exact hz
theorem Lv.reach {N : W} {s : Nat} {l : List (W × Nat)} {es : List W} (v : Lv N s l es) : ∀ x ∈ keys l, Reach N x := fun x hx => by
  obtain ⟨k, hk⟩ := mem_keys.mp hx
  exact ⟨k, (v.ok x k hk).1⟩
theorem lv_end {N : W} {s : Nat} {l : List (W × Nat)} (v : Lv N s l []) (x : W) : x ∈ keys l ↔ Reach N x := by
  refine ⟨v.reach x, fun r => reach_closed (L := fun x => x ∈ keys l) (v.all 0 N (.zero N) (Nat.zero_le _)) (fun y hy z hz => ?_) r⟩
  obtain ⟨k, hk⟩ := mem_keys.mp hy
  obtain ⟨h1, h2, h3⟩ := v.ok y k hk
  refine v.all (k + 1) z (.succ h1 hz) ?_
  rcases Nat.lt_or_ge k s with q | q
  · exact q
  · obtain rfl : k = s := by omega
    exact absurd ((v.ed y).mpr hk) (by simp)
theorem lv_min {N : W} {s : Nat} {l : List (W × Nat)} (v : Lv N s l []) (x : W) : IsMin (fun k => Steps k N x) (l.lookup x) := by
  cases e : l.lookup x with
  | none =>
    intro c h
    exact lookup_none.mp e ((lv_end v x).mpr ⟨c, h⟩)
  | some k =>
    obtain ⟨h1, h2, h3⟩ := v.ok x k (lookup_some e)
    exact ⟨h1, h3⟩
/-- what the program answers, by the rows of cuts -/
theorem part_min {f g : W} (hf : f ≠ []) (hg : g ≠ []) {o : Option Nat} (h : IsMin (fun c => ∃ i, i < f.length ∧ Pc (rot f i) g c) o) : IsMin (fun k => Steps k (lturn f) (lturn g)) o := by
  cases o with
  | none =>
    intro k s
    obtain ⟨i, c, hi, _, hp⟩ := steps_part hf hg s
    exact h c ⟨i, hi, hp⟩
  | some m =>
    obtain ⟨⟨i, hi, hp⟩, h2⟩ := h
    refine ⟨part_steps hf hg hp, fun k s => ?_⟩
    obtain ⟨j, c, hj, hc, hq⟩ := steps_part hf hg s
    exact Nat.le_trans (h2 c ⟨j, hj, hq⟩) hc
theorem part_some {f g : W} (hf : f ≠ []) (hg : g ≠ []) : (∃ i c, i < f.length ∧ Pc (rot f i) g c) ↔ Reach (lturn f) (lturn g) := by
  constructor
  · rintro ⟨i, c, hi, hp⟩
    exact ⟨c, part_steps hf hg hp⟩
  · rintro ⟨k, s⟩
    obtain ⟨i, c, hi, _, hp⟩ := steps_part hf hg s
    exact ⟨i, c, hi, hp⟩
end Rg
set_option Elab.async false
set_option linter.all false
set_option maxRecDepth 100000
set_option maxHeartbeats 8000000
namespace G
open PySem PySem.Spec PyProof.Rows L2
open Rg (W)
abbrev nLaw : List Str := ["_law_script", "_law_row", "_law_film_here", "_law_name", "_law_many", "_law_turn_here", "_law_other", "_law_period", "_law_one", "_law_known", "_law_edge", "_law_steps", "_law_now", "_law_later", "_law_told", "_law_goal_here", "_law_ways", "_law_at"]
theorem scLaw : FnScope nLaw ["_law_script"] (defScope sLaw) := ⟨rfl, rfl, rfl, by decide +kernel, rfl, by decide +kernel, by decide +kernel⟩
/-- a value, by what holds of it -/
def tVia (t : TE) : TE := fun σ H Q => ∃ G : VK, t σ H G ∧ ∀ v H', G v H' → Q v H'
theorem pe_via {X : Cx} {e : Expr} {t : TE} (h : PE X e t) : PE X e (tVia t) := by
  refine ⟨fun pins s σ H Q I q => ?_⟩
  obtain ⟨G, hw, k⟩ := q
  exact thn (h.run pins s σ H G I hw) fun v s1 ⟨x, H1, I1, r1, q1⟩ => ⟨x, H1, I1, r1, k _ _ q1⟩
abbrev rLS (K : PySem.W.Frag) : List V → Hp → VK → Prop := fun xs H Q => ∃ p ys, xs = [V.ref p] ∧ (SqL K H p ys ∨ SqT K H p ys) ∧ Q (V.int (ys.length : Nat)) H
/-- the levels as a dict -/
def kn (l : List (W × Nat)) : List (Key × V) := kl (l.map fun p => (p.1, nV p.2))
theorem kn_look : ∀ (l : List (W × Nat)) (x : W), (l.map fun p => (p.1, nV p.2)).lookup x = (l.lookup x).map nV
  | [], _ => rfl
  | (y, j) :: l, x => by
    rw [List.map_cons, List.lookup_cons, List.lookup_cons]
    cases x == y with
    | true => rfl
    | false => exact kn_look l x
theorem valV_kn (l : List (W × Nat)) (x : W) : valV (kn l) (Sum.inr (tx x) : Key) = (l.lookup x).map nV := (valV_kl x _).trans (kn_look l x)
theorem kn_len (l : List (W × Nat)) : (kn l).length = l.length := by simp [kn, kl_len]
theorem keys_len (l : List (W × Nat)) : (Rg.keys l).length = l.length := by simp [Rg.keys]
theorem kn_keys (l : List (W × Nat)) : (kn l).map (fun kv => kV kv.1) = ((Rg.keys l).map tx).map V.str := by
  simp [kn, kl, Rg.keys, List.map_map, Function.comp_def, kV]
theorem putK_kn {l : List (W × Nat)} {x : W} (k : Nat) (h : x ∉ Rg.keys l) : putK (kn l) (Sum.inr (tx x) : Key) (nV k) = kn (l ++ [(x, k)]) := by
  unfold kn
  rw [putK_kl (nV k) (by rw [kn_look, Rg.lookup_none.mpr h]; rfl), List.map_append]
  rfl
/-- the law's names, in the levels' loop -/
def sg (S R : Addr) (f : W) (t : Nat) (g : W) (d e : Addr) (s : Nat) (a b c : Option V) : L2.St :=
  [some (.ref S), some (.ref R), some (txV f), some (txV (Rg.lturn f)), some (.int ((tx f).length : Nat)), some (nV t), some (txV g), some (.int (Rg.per f)), none, some (.ref d), some (.ref e), some (nV s), a, b, c, none, none, none]
def spLaw (K : PySem.W.Frag) : Sp := fun vs H Q _ => ∃ (a : Addr) (ns : List Int), vs = [.ref a] ∧ SqL K H a (ns.map V.int) ∧ ∀ H', Q (.bl true) H'
section
variable {P : Program} {w : World} {K : PySem.W.Frag} {mg : Str → Option Value} {base : Heap} {f : Addr} {fd : FuncData}
theorem ok_law (F : FnP K "law" sLaw f fd) (T : Fr mg) (D_law_film : Df P w K mg base "_law_film" ["_law_row", "_law_most", "_law_many"] 2 (spLawFilm K)) (D_law_taken : Df P w K mg base "_law_taken" ["_law_row", "_law_many"] 1 (spTaken K))
    (D_law_turn : Df P w K mg base "_law_turn" ["_law_film_here"] 1 spTurn) (D_law_alike : Df P w K mg base "_law_alike" ["_law_found", "_law_due"] 4 (spAlike 3)) (Dring_name : Df P w K mg base "ring_name" ["film"] 3 spRingName)
    (Dring_next : Df P w K mg base "ring_next" ["film"] 4 spNextF) (D_law_ring_next : Df P w K mg base "_law_ring_next" ["_law_film_here"] 2 spNext) (D_law_is : Df P w K mg base "_law_is" ["_law_found", "_law_due"] 1 spLawIs)
    (Dsame_ring : Df P w K mg base "same_ring" ["one", "other"] 3 spSameRing) (Dis_last_ring : Df P w K mg base "is_last_ring" ["film"] 2 spLast) (Dring_period : Df P w K mg base "ring_period" ["film"] 2 spPeriod)
    (Dring_outcomes : Df P w K mg base "ring_outcomes" ["film"] 4 spOutcomes) (Dring_shortest : Df P w K mg base "ring_shortest" ["film"] 3 spShortest) (D_law_pick : Df P w K mg base "_law_pick" ["_law_row", "_law_things"] 2 (spPickL K))
    (D_law_goal : Df P w K mg base "_law_goal" ["_law_row", "_law_film_here"] 4 (spLawGoal K)) (Dring_comes : Df P w K mg base "ring_comes" ["film", "goal"] 3 spComes) (Dring_fewest : Df P w K mg base "ring_fewest" ["film", "goal"] 2 spRingFewest)
    (D_law_partings : Df P w K mg base "_law_partings" ["_law_film_here", "_law_goal_here"] 1 spLawPartings) (Dring_partings : Df P w K mg base "ring_partings" ["film", "goal"] 2 spPartings) : FnOk P w K mg base CX0 5 f fd ["_law_script"] (spLaw K) := by
  refine F.ok scLaw (fun vs H Q E h => ?_) (fun cdv A outer s H vs Q E hr h => ?_)
  · obtain ⟨_, _, rfl, _⟩ := h
    rfl
  · obtain ⟨S, ns, rfl, hS, k⟩ := h
    have hu := hu_of hr
    have nd := scLaw.nd
    refine ⟨_, PSs.nox (pss_cons (ps_set (i := 1) nd rfl (Or.inl rfl) (pe_lst (pa_cons (pv 0) (pa_cons pe_int (pa_cons pe_int (pa_cons pe_int pa_nil))))))
      (pss_cons (ps_set (i := 2) nd rfl (Or.inr rfl) (D_law_film.call (hr.mono (by decide)) (by rfl) (pa_cons (pv 1) (pa_cons pe_int (pa_cons (pe_op op_add pe_int (D_law_taken.call (hr.mono (by decide)) (by rfl) (pa_cons (pv 1) (pa_cons pe_int pa_nil)))) pa_nil)))))
      (pss_cons (ps_par (i := 3) (j := 4) (by rfl) nd rfl rfl (by decide) rfl rfl (pa_cons (D_law_turn.call (hr.mono (by decide)) (by rfl) (pa_cons (pv 2) pa_nil)) (pa_cons (pe_callB call_len_str (by rfl) T.len bt_len (pa_cons (pv 2) pa_nil)) pa_nil)) (by rfl))
      (pss_cons (ps_set (i := 5) nd rfl (Or.inl rfl) (D_law_taken.call (hr.mono (by decide)) (by rfl) (pa_cons (pv 1) (pa_cons (pv 4) pa_nil))))
      (pss_cons (ps_set (i := 6) nd rfl (Or.inl rfl) (pe_via (pe_ifExp (pt_cmpR op_eq (D_law_taken.call (hr.mono (by decide)) (by rfl) (pa_cons (pv 1) (pa_cons pe_int pa_nil))) pe_int (nomark _)) (pe_op op_add_str (pe_slice sl_str (pv 2) (po_some (pv 5)) po_none) (pe_slice sl_str (pv 2) po_none (po_some (pv 5)))) (D_law_film.call (hr.mono (by decide)) (by rfl) (pa_cons (pv 1) (pa_cons pe_int (pa_cons pe_int pa_nil)))))))
      (pss_cons (ps_if (pt_not (pt_val (D_law_alike.call (hr.mono (by decide)) (by rfl) (pa_cons (pe_lst (pa_cons (Dring_name.call (hr.mono (by decide)) (by rfl) (pa_cons (pv 2) pa_nil)) (pa_cons (Dring_next.call (hr.mono (by decide)) (by rfl) (pa_cons (pv 2) pa_nil)) pa_nil))) (pa_cons (pe_lst (pa_cons (pv 3) (pa_cons (D_law_ring_next.call (hr.mono (by decide)) (by rfl) (pa_cons (pv 2) pa_nil)) pa_nil))) pa_nil))))) (pss_one (ps_ret pe_bl)) pss_nil)
      (pss_cons (ps_if (pt_not (pt_val (D_law_is.call (hr.mono (by decide)) (by rfl) (pa_cons (Dsame_ring.call (hr.mono (by decide)) (by rfl) (pa_cons (pv 2) (pa_cons (pv 6) pa_nil))) (pa_cons (pe_cmpR op_eq (D_law_turn.call (hr.mono (by decide)) (by rfl) (pa_cons (pv 6) pa_nil)) (pv 3) (nomark _)) pa_nil))))) (pss_one (ps_ret pe_bl)) pss_nil)
      (pss_cons (ps_if (pt_not (pt_val (D_law_is.call (hr.mono (by decide)) (by rfl) (pa_cons (Dis_last_ring.call (hr.mono (by decide)) (by rfl) (pa_cons (pv 2) pa_nil)) (pa_cons (pe_cmpR (op_eqD hr.units) (D_law_ring_next.call (hr.mono (by decide)) (by rfl) (pa_cons (pv 2) pa_nil)) (pe_lst pa_nil) (nomark _)) pa_nil))))) (pss_one (ps_ret pe_bl)) pss_nil)
      (pss_cons (ps_set (i := 7) nd rfl (Or.inl rfl) (pe_ix ix_list (pe_lc (own := [("_law_one", 8)]) (g := (gName 8)) (tt := _) rfl nd (pi_range2 (by rfl) T.range (pa_cons pe_int (pa_cons (pe_op op_add (pv 4) pe_int) pa_nil))) (blkOk_by (N := nLaw) (sc := defScope sLaw) (by decide +kernel)) (fun _ _ _ _ _ => pg_name (i := 8) nd rfl (Or.inl rfl)) (fun _ _ _ _ _ => pts_one (pt_cmpR op_eq (pe_op op_add_str (pe_slice sl_str (pv 2) (po_some (pv 8)) po_none) (pe_slice sl_str (pv 2) po_none (po_some (pv 8)))) (pv 2) (nomark _))) (fun _ _ _ _ _ => (pv 8))) pe_int (fun _ _ => rfl)))
      (pss_cons (ps_if (pt_not (pt_val (D_law_alike.call (hr.mono (by decide)) (by rfl) (pa_cons (Dring_period.call (hr.mono (by decide)) (by rfl) (pa_cons (pv 2) pa_nil)) (pa_cons (pv 7) pa_nil))))) (pss_one (ps_ret pe_bl)) pss_nil)
      (pss_cons (ps_par3 (i := 9) (j := 10) (l := 11) (by rfl) nd rfl rfl rfl (by decide) (by decide) (by decide) rfl rfl rfl (pa_cons (pe_disp (pps_cons (pv 3) pe_int pps_nil) (by rfl) (by rfl) (fun z => by cases z) (by decide)) (pa_cons (pe_lst (pa_cons (pv 3) pa_nil)) (pa_cons pe_int pa_nil))) (by rfl))
      (pss_cons (ps_while PassesOwn.never (pt_cmpR (op_neD hr.units) (pv 10) (pe_lst pa_nil) (nomark _)) (pss_cons (ps_par (i := 13) (j := 11) (by rfl) nd rfl rfl (by decide) rfl rfl (pa_cons (pe_lst pa_nil) (pa_cons (pe_op op_add (pv 11) pe_int) pa_nil)) (by rfl))
      (pss_cons (ps_for PassesOwn.never rfl (pi_list (pv 10)) (pg_name (i := 12) nd rfl (Or.inl rfl)) (pss_one (ps_for PassesOwn.never rfl (pi_list (D_law_ring_next.call (hr.mono (by decide)) (by rfl) (pa_cons (pv 12) pa_nil))) (pg_name (i := 14) nd rfl (Or.inl rfl)) (pss_one (ps_if (pt_cmp (pc_dnotin hu (pv 14) (pv 9))) (pss_cons (ps_dput hu (pv 9) (pv 14) (pv 11) rfl)
      (pss_one (ps_expr (pe_bm PySem.F.plainAttrs_list PySem.F.slot_list_append PySem.F.type_list_append mt_append (pv 13) (pa_cons (pv 14) pa_nil))))) pss_nil)))))
      (pss_one (ps_set (i := 10) nd rfl (Or.inl rfl) (pv 13))))))
      (pss_cons (ps_if (pt_not (pt_val (D_law_alike.call (hr.mono (by decide)) (by rfl) (pa_cons (Dring_outcomes.call (hr.mono (by decide)) (by rfl) (pa_cons (pv 2) pa_nil)) (pa_cons (pe_callB cr_sortedSA (by rfl) T.sorted bt_sorted (pa_cons (pe_callTy (call_list_dK rfl) (by rfl) T.list bt_list (pa_cons (pv 9) pa_nil)) pa_nil)) pa_nil))))) (pss_one (ps_ret pe_bl)) pss_nil)
      (pss_cons (ps_if (pt_not (pt_val (D_law_alike.call (hr.mono (by decide)) (by rfl) (pa_cons (Dring_shortest.call (hr.mono (by decide)) (by rfl) (pa_cons (pv 2) pa_nil)) (pa_cons (pe_callB (cr_min rfl) (by rfl) T.min bt_min (pa_cons (pe_lc (own := [("_law_told", 14)]) (g := (gName 14)) (tt := tYes) rfl nd (pi_list (pe_callTy (call_list_dK rfl) (by rfl) T.list bt_list (pa_cons (pv 9) pa_nil))) (blkOk_by (N := nLaw) (sc := defScope sLaw) (by decide +kernel)) (fun _ _ _ _ _ => pg_name (i := 14) nd rfl (Or.inl rfl)) (fun _ _ _ _ _ => pts_nil) (fun _ _ _ _ _ => (pe_callB call_len_str (by rfl) T.len bt_len (pa_cons (pv 14) pa_nil)))) pa_nil)) pa_nil))))) (pss_one (ps_ret pe_bl)) pss_nil)
      (pss_cons (ps_set (i := 15) nd rfl (Or.inr rfl) (pe_via (pe_ifExp (pt_cmpR op_eq (D_law_taken.call (hr.mono (by decide)) (by rfl) (pa_cons (pv 1) (pa_cons pe_int pa_nil))) pe_int (nomark _)) (D_law_pick.call (hr.mono (by decide)) (by rfl) (pa_cons (pv 1) (pa_cons (pe_callB cr_sortedSA (by rfl) T.sorted bt_sorted (pa_cons (pe_callTy (call_list_dK rfl) (by rfl) T.list bt_list (pa_cons (pv 9) pa_nil)) pa_nil)) pa_nil))) (D_law_goal.call (hr.mono (by decide)) (by rfl) (pa_cons (pv 1) (pa_cons (pv 2) pa_nil))))))
      (pss_cons (ps_if (pt_not (pt_val (D_law_is.call (hr.mono (by decide)) (by rfl) (pa_cons (Dring_comes.call (hr.mono (by decide)) (by rfl) (pa_cons (pv 2) (pa_cons (pv 15) pa_nil))) (pa_cons (pe_cmp (pc_din hu (D_law_turn.call (hr.mono (by decide)) (by rfl) (pa_cons (pv 15) pa_nil)) (pv 9)) rfl) pa_nil))))) (pss_one (ps_ret pe_bl)) pss_nil)
      (pss_cons (ps_if (pt_not (pt_val (D_law_alike.call (hr.mono (by decide)) (by rfl) (pa_cons (Dring_fewest.call (hr.mono (by decide)) (by rfl) (pa_cons (pv 2) (pa_cons (pv 15) pa_nil))) (pa_cons (pe_dget1 hu (pv 9) (D_law_turn.call (hr.mono (by decide)) (by rfl) (pa_cons (pv 15) pa_nil)) ⟨rfl, rfl, rfl, rfl⟩) pa_nil))))) (pss_one (ps_ret pe_bl)) pss_nil)
      (pss_cons (ps_set (i := 16) nd rfl (Or.inl rfl) (pe_callB (cr_sum rfl) (by rfl) T.sum bt_sum (pa_cons (pe_lc (own := [("_law_at", 17)]) (g := (gName 17)) (tt := tYes) rfl nd (pi_range1 (by rfl) T.range (pa_cons (pv 4) pa_nil)) (blkOk_by (N := nLaw) (sc := defScope sLaw) (by decide +kernel)) (fun _ _ _ _ _ => pg_name (i := 17) nd rfl (Or.inl rfl)) (fun _ _ _ _ _ => pts_nil) (fun _ _ _ _ _ => (pe_callB (show CallR _ (.builtin "len") (rLS K) from call_len_seq) (by rfl) T.len bt_len (pa_cons (D_law_partings.call (hr.mono (by decide)) (by rfl) (pa_cons (pe_op op_add_str (pe_slice sl_str (pv 2) (po_some (pv 17)) po_none) (pe_slice sl_str (pv 2) po_none (po_some (pv 17)))) (pa_cons (pv 15) pa_nil))) pa_nil)))) pa_nil)))
      (pss_one (ps_ret (D_law_alike.call (hr.mono (by decide)) (by rfl) (pa_cons (Dring_partings.call (hr.mono (by decide)) (by rfl) (pa_cons (pv 2) (pa_cons (pv 15) pa_nil))) (pa_cons (pv 16) pa_nil))))))))))))))))))))))), ?_⟩
    refine ⟨_, rfl, by show 4 ≤ sizeLine; decide, fun R hR => ?_⟩
    have hRow : RowAt K S ns (upd H R (.lst [.ref S, .int 0, .int 5012, .int 0])) R := ⟨0, 5012, 0, upd_same, by decide, by decide, by decide, (same_upd hR).seq hS⟩
    generalize upd H R (.lst [.ref S, .int 0, .int 5012, .int 0]) = H0 at hRow ⊢
    refine ⟨_, rfl, _, rfl, R, S, ns, _, rfl, by decide, by decide, hRow, fun t1 H1 ht1 hR1 b1 => ?_⟩
    refine ⟨_, _, rfl, rfl, R, S, ns, _, _, rfl, by decide, by decide, by omega, by omega, hR1, fun f H2 hf hR2 b2 => ?_⟩
    have f8 := hf.len
    have fp := hf.pos
    have hlf : (tx f).length ≤ sizeLine := txl (by omega)
    refine ⟨_, rfl, f, rfl, hf.ne, by omega, fun H3 s3 => ⟨_, rfl, _, rfl, hlf, _, _, rfl, ?_⟩⟩
    have hR3 := hR2.later s3
    refine ⟨_, rfl, _, rfl, R, S, ns, _, rfl, by rw [tx_len]; omega, by rw [tx_len]; omega, hR3, fun t H4 ht hR4 b4 => ?_⟩
    refine ⟨fun v H' => ∃ g, v = txV g ∧ Film g ∧ RowAt K S ns H' R, ?_, ?_⟩
    · refine ⟨_, rfl, R, S, ns, _, rfl, by decide, by decide, hR4, fun t2 H5 ht2 hR5 b5 => ⟨rfl, _, rfl, iteB (fun e => ?_) fun e => ?_⟩⟩
      · refine ⟨_, rfl, _, rfl, _, rfl, _, rfl, hlf, _, rfl, _, rfl, _, rfl, _, rfl, hlf, _, _, rfl, rfl, ?_, Rg.rot f t, ?_, ?_, hR5⟩
        · rw [cut_from, cut_to, tx_len, tx_len, List.length_drop, List.length_take]
          exact Nat.le_trans (by omega) (show 1000 ≤ sizeLine by decide)
        · rw [cut_from, cut_to, tx_app]
          rfl
        · exact ⟨(Rg.Sim.rot f t).ne hf.ne, by rw [Rg.rot_len]; exact f8, fun c hc => hf.ok c (((Rg.Sim.rot f t).mem c).mpr hc)⟩
      · exact ⟨_, rfl, R, S, ns, _, _, rfl, by decide, by decide, by decide, by decide, hR5, fun g H6 hg hR6 b6 => ⟨g, rfl, hg, hR6⟩⟩
    rintro v H5 ⟨g, rfl, hg, hR5⟩
    have g8 := hg.len
    refine ⟨_, rfl, f, rfl, hf, fun H6 s6 => ⟨_, rfl, f, rfl, hf, fun ys p H7 hys s7 np hp => ⟨by show 2 ≤ sizeLine; decide, fun L1 hL1 => ?_⟩⟩⟩
    have hR7 := (((hR5.later s6).later s7)).later (same_upd hL1 (o := .lst [txV (Rg.lturn f), .ref p]))
    have hp7 := upd_new (o := .lst [txV (Rg.lturn f), .ref p]) hp hL1
    have hL7 : (upd H7 L1 (.lst [txV (Rg.lturn f), .ref p])) L1 = some (.lst [txV (Rg.lturn f), .ref p]) := upd_same
    show tCons _ _ _ _ _
    generalize upd H7 L1 (.lst [txV (Rg.lturn f), .ref p]) = H8 at hR7 hp7 hL7 ⊢
    refine ⟨_, rfl, _, rfl, f, rfl, hf.ne, f8, fun ys2 p2 H9 hys2 s9 np2 hp2 => ⟨by show 2 ≤ sizeLine; decide, fun LB hLB => ?_⟩⟩
    obtain rfl : ys = ys2 := hys.uniq hys2 fun _ => Iff.rfl
    have hr9 : ∀ x ∈ Rg.rn f, x ≠ [] ∧ x.length ≤ 8 ∧ ∀ c ∈ x, c ≤ 104 := fun x hx => by
      obtain ⟨g1, g2, _, g3⟩ := Rg.rn_good hf.ne hx
      exact ⟨g1, by omega, fun c hc => (hf.ok c (g3 c hc)).2⟩
    have hyl : ys.length ≤ 100000 := by
      have h1 := Rg.pigeon ys (Rg.rn f) hys.nodup fun x hx => (hys.2 x).mp hx
      have h2 := Rg.rnTo_len f f.length
      rw [Rg.rnTo_all] at h2
      have h3 : f.length * f.length ≤ 8 * 8 := Nat.mul_le_mul f8 f8
      omega
    have hR9 := (hR7.later s9).later (same_upd hLB (o := .lst [txV (Rg.lturn f), .ref p2]))
    have hp9 := upd_new (o := .lst [txV (Rg.lturn f), .ref p2]) (s9 _ _ hp7) hLB
    have hq9 := upd_new (o := .lst [txV (Rg.lturn f), .ref p2]) hp2 hLB
    have hL9 := upd_new (o := .lst [txV (Rg.lturn f), .ref p2]) (s9 _ _ hL7) hLB
    have hM9 : (upd H9 LB (.lst [txV (Rg.lturn f), .ref p2])) LB = some (.lst [txV (Rg.lturn f), .ref p2]) := upd_same
    generalize upd H9 LB (.lst [txV (Rg.lturn f), .ref p2]) = H10 at hR9 hp9 hq9 hL9 hM9 ⊢
    refine ⟨_, _, rfl, .inr ⟨L1, LB, _, _, rfl, rfl, hL9, hM9, rfl, by show 2 ≤ 100000; decide, fun i u v hu hv => ?_⟩, fun H11 s11 => ⟨_, rfl, iteF ?_⟩⟩
    · match i, hu, hv with
      | 0, hu, hv =>
        cases hu
        cases hv
        exact .atom (.inl ⟨_, rfl⟩)
      | 1, hu, hv =>
        cases hu
        cases hv
        exact .texts hp9 hq9 hyl
      | i + 2, hu, hv => cases hu
    have hR11 := hR9.later s11
    refine ⟨_, rfl, _, rfl, f, g, rfl, hf, hg, fun H12 s12 => ⟨_, rfl, g, rfl, hg.ne, by omega, fun H13 s13 => ⟨_, rfl, rfl, _, _, rfl, _, rfl, iteN ?_ ?_⟩⟩⟩
    · rw [tx_eqV]
      by_cases e : Rg.lturn f = Rg.lturn g
      · simp [e]
      · simp [e, Ne.symm e]
    have hR13 := (hR11.later s12).later s13
    refine ⟨_, rfl, f, rfl, hf, fun b H14 s14 hb => ⟨_, rfl, f, rfl, hf.ne, f8, fun ys3 p3 H15 hys3 s15 np3 hp3 => ⟨by show 0 ≤ sizeLine; decide, fun Z hZ => eqNil (.of (upd_new hp3 hZ)) (.of upd_same) (fun v hv => ?_) ⟨_, _, rfl, _, rfl, iteN ?_ ?_⟩⟩⟩⟩
    · obtain ⟨x, hx, rfl⟩ := List.mem_map.mp hv
      exact ok3_film (hr9 x ((hys3.2 x).mp hx)).2.2
    · have e : (ys3.map txV).isEmpty = b := by
        rw [Bool.eq_iff_iff, hb, List.isEmpty_iff, List.map_eq_nil_iff]
        constructor
        · intro e
          refine List.eq_nil_iff_forall_not_mem.mpr fun x hx => ?_
          have := (hys3.2 x).mpr hx
          rw [e] at this
          cases this
        · intro e
          refine List.eq_nil_iff_forall_not_mem.mpr fun x hx => ?_
          have := (hys3.2 x).mp hx
          rw [e] at this
          cases this
      rw [e]
      simp
    have hR15 := ((hR13.later s14).later s15).later (same_upd hZ (o := .lst []))
    generalize upd H15 Z (.lst []) = H16 at hR15 ⊢
    refine ⟨_, rfl, _, _, rfl, rfl, _, _, rfl, ?_, fun D hD => ?_⟩
    · rw [tx_len]; omega
    have en : (((tx f).length : Int) + 1 - 1).toNat = f.length := by rw [tx_len]; omega
    rw [en]
    refine lc_it walk_range (PvL D H16 (filL (fun i => decide (Rg.rot f (i + 1) = f)) (fun i => V.int ((i + 1 : Nat) : Int)))) (PvL.start hD rfl) (fun _ _ _ _ => trivial) ?_ ?_
    · rintro i x H2 H3 hi p ⟨rfl, ex⟩
      have ex := int_eq ex (show (1 : Int) + (i : Int) = ((i + 1 : Nat) : Int) by omega)
      subst ex
      refine ⟨rfl, _, rfl, _, rfl, _, rfl, _, rfl, hlf, _, rfl, _, rfl, _, rfl, _, rfl, hlf, _, _, rfl, rfl, ?_, _, rfl, rfl, _, rfl, ?_⟩
      · rw [cut_from, cut_to, tx_len, tx_len, List.length_drop, List.length_take]
        exact Nat.le_trans (by omega) (show 1000 ≤ sizeLine by decide)
      rw [cut_from, cut_to, tx_app, tx_eqV]
      refine iteB (fun e => ?_) fun e => ?_
      · exact ⟨_, rfl, _, p.at_, lt_line (Nat.le_trans (filL_len _ _ _) (by omega)), PvL.push hD p.same (filL_yes e)⟩
      · exact p.skip (filL_no e)
    rintro H17 p17
    refine ⟨D, _, 0, _, rfl, rfl, .of p17.at_, atI_nat (j := 0) (per_head f hf.ne), ?_⟩
    have hR17 := hR15.later p17.same
    refine ⟨_, rfl, f, rfl, hf, fun H18 s18 => ⟨_, rfl, _, _, rfl, .atom (.inr (.inl ⟨_, rfl⟩)), fun H19 s19 => ⟨_, rfl, iteF ?_⟩⟩⟩
    have hR19 := (hR17.later s18).later s19
    intro d hd
    refine ⟨_, rfl, upd_same, [(Sum.inr (tx (Rg.lturn f)), nV 0)], rfl, by show 1 ≤ 15; decide, _, rfl, by show 1 ≤ sizeLine; decide, fun e he => ⟨_, _, _, rfl, ?_⟩⟩
    have hN : Rg.lturn f ≠ [] := Rg.lturn_ne hf.ne
    have hN8 : (Rg.lturn f).length ≤ 8 := by rw [Rg.lturn_len hf.ne]; exact f8
    have good : ∀ x, Rg.Reach (Rg.lturn f) x → x ≠ [] ∧ x.length ≤ 8 ∧ ∀ c ∈ x, 97 ≤ c ∧ c ≤ 104 := fun x hx => by
      obtain ⟨g1, g2, g3⟩ := hx.good hN
      exact ⟨g1, by omega, fun c hc => hf.ok c (((Rg.lturn_sim hf.ne).mem c).mpr (g3 c hc))⟩
    have few : ∀ l' : List W, l'.Nodup → (∀ y ∈ l', Rg.Reach (Rg.lturn f) y) → l'.length ≤ 2048 := fun l' a b => Rg.reach_few hN hN8 a b
    have hd0 : (upd (upd (upd H19 d (.dK [])) d (.dK (mergeK [] [(Sum.inr (tx (Rg.lturn f)), nV 0)]))) e (.lst [txV (Rg.lturn f)])) d = some (.dK (kn [(Rg.lturn f, 0)])) := upd_new upd_same he
    have he0 : (upd (upd (upd H19 d (.dK [])) d (.dK (mergeK [] [(Sum.inr (tx (Rg.lturn f)), nV 0)]))) e (.lst [txV (Rg.lturn f)])) e = some (.lst ([Rg.lturn f].map txV)) := upd_same
    have s20 : Same H19 (upd (upd (upd H19 d (.dK [])) d (.dK (mergeK [] [(Sum.inr (tx (Rg.lturn f)), nV 0)]))) e (.lst [txV (Rg.lturn f)])) := by
      have s3 := same_new (o := .dK (mergeK [] [(Sum.inr (tx (Rg.lturn f)), nV 0)])) (same_new (o := .dK []) (Same.refl H19) hd) hd
      exact same_new s3 (s3.free he)
    generalize upd (upd (upd H19 d (.dK [])) d (.dK (mergeK [] [(Sum.inr (tx (Rg.lturn f)), nV 0)]))) e (.lst [txV (Rg.lturn f)]) = H20 at hd0 he0 s20 ⊢
    refine ⟨fun m σ H4 => ∃ e s l es a b c, σ = sg S R f t g d e s a b c ∧ Same H19 H4 ∧ H4 d = some (.dK (kn l)) ∧ H4 e = some (.lst (es.map txV)) ∧ Rg.Lv (Rg.lturn f) s l es ∧ m = 9 - s,
      ⟨_, e, 0, _, _, none, none, none, rfl, s20, hd0, he0, Rg.lv_start _, rfl⟩, ?_⟩
    clear hd0 he0 s20 he
    rintro m σ H4 ⟨e, s, l, es, a, b, c, rfl, s5, hd5, he5, v, em⟩
    refine ⟨_, rfl, by show 0 ≤ sizeLine; decide, fun Z hZ => neNil (.of (upd_new he5 hZ)) (.of upd_same) (fun v' hv => ?_) ⟨_, rfl, ?_⟩⟩
    · obtain ⟨x, hx, rfl⟩ := List.mem_map.mp hv
      exact ok3_film fun c hc => ((good x (v.reach x (Rg.mem_keys.mpr ⟨_, (v.ed x).mp hx⟩))).2.2 c hc).2
    have hd6 := upd_new (o := .lst []) hd5 hZ
    have he6 := upd_new (o := .lst []) he5 hZ
    have s6 : Same H19 (upd H4 Z (.lst [])) := same_new s5 (s5.free hZ)
    generalize upd H4 Z (.lst []) = H5 at hd6 he6 s6 ⊢
    refine iteB (fun eb => ?_) fun eb => ?_
    · have hs7 : s ≤ 7 := by
        cases es with
        | nil => simp at eb
        | cons x r =>
          have h1 := (v.ok x s ((v.ed x).mp List.mem_cons_self)).1
          obtain ⟨h2, h3, _⟩ := h1.good hN
          have := List.length_pos_iff.mpr h2
          omega
      refine ⟨fun σ' H' => ∃ m', m' < m ∧ ∃ e s l es a b c, σ' = sg S R f t g d e s a b c ∧ Same H19 H' ∧ H' d = some (.dK (kn l)) ∧ H' e = some (.lst (es.map txV)) ∧ Rg.Lv (Rg.lturn f) s l es ∧ m' = 9 - s, fun _ _ z => z, ?_⟩
      refine ⟨by show 0 ≤ sizeLine; decide, fun D hD => ⟨_, rfl, _, _, rfl, rfl, _, _, rfl, ?_⟩⟩
      have hd7 := upd_new (o := .lst []) hd6 hD
      have he7 := upd_new (o := .lst []) he6 hD
      have hD7 : (upd H5 D (.lst [])) D = some (.lst (([] : List W).map txV)) := upd_same
      have nHD : H19 D = none := s6.free hD
      have hde : D ≠ e := Ne.symm (ne_of_none he6 hD)
      have s7 : Same H19 (upd H5 D (.lst [])) := same_new s6 nHD
      generalize upd H5 D (.lst []) = H6 at hd7 he7 hD7 s7 ⊢
      have ndD : d ≠ D := ne_of hd7 hD7 (by intro z; cases z)
      refine ⟨_, rfl, e, rfl, ⟨_, .of he7⟩, ?_⟩
      refine for_it walk_list (fun i σ H8 => ∃ ls a c, σ = sg S R f t g d e (s + 1) a (some (.ref D)) c ∧ Same H19 H8 ∧ H8 d = some (.dK (kn (Rg.put l ls (s + 1)))) ∧ H8 e = some (.lst (es.map txV)) ∧ H8 D = some (.lst (ls.map txV)) ∧ Rg.Md (Rg.lturn f) s l es ls ∧ ∀ x ∈ es.take i, ∀ y ∈ Rg.rn x, y ∈ Rg.keys l ++ ls)
        ⟨[], a, c, rfl, s7, by rw [Rg.put_nil]; exact hd7, he7, hD7, Rg.md_nil _ _ _ _, by simp⟩ (fun _ _ _ _ ⟨_, _, _, _, _, _, z, _⟩ => .of z) ?_ ?_
      · rintro i v' σ H9 H8 hi ⟨ls, a1, c1, rfl, s8, hd8, he8, hD8, md, cv⟩ ⟨rfl, hx0⟩
        obtain ⟨x, hx, rfl⟩ := at_map hx0
        have hxe : x ∈ es := List.mem_of_getElem? hx
        obtain ⟨x1, x2, x3⟩ := good x (v.reach x (Rg.mem_keys.mpr ⟨_, (v.ed x).mp hxe⟩))
        refine ⟨_, rfl, x, rfl, x1, x2, fun ys2 p4 H10 hys2 s10 np4 hp4 => ⟨p4, rfl, ⟨_, .of hp4⟩, ?_⟩⟩
        have npD : p4 ≠ D := Ne.symm (ne_of_none hD8 np4)
        have npd : p4 ≠ d := Ne.symm (ne_of_none hd8 np4)
        refine for_it walk_list (fun j σ H11 => ∃ ls c, σ = sg S R f t g d e (s + 1) (some (txV x)) (some (.ref D)) c ∧ Same H19 H11 ∧ H11 d = some (.dK (kn (Rg.put l ls (s + 1)))) ∧ H11 e = some (.lst (es.map txV)) ∧ H11 D = some (.lst (ls.map txV)) ∧ H11 p4 = some (.lst (ys2.map txV)) ∧ Rg.Md (Rg.lturn f) s l es ls ∧ (∀ x ∈ es.take i, ∀ y ∈ Rg.rn x, y ∈ Rg.keys l ++ ls) ∧ ∀ y ∈ ys2.take j, y ∈ Rg.keys l ++ ls)
          ⟨ls, c1, rfl, s8.trans s10, s10 _ _ hd8, s10 _ _ he8, s10 _ _ hD8, hp4, md, cv, by simp⟩ (fun _ _ _ _ ⟨_, _, _, _, _, _, _, z, _⟩ => .of z) ?_ ?_
        · rintro j v2 σ H12 H11 hj ⟨ls, c2, rfl, s11, hd11, he11, hD11, hp11, md, cv, ct⟩ ⟨rfl, hy0⟩
          obtain ⟨y, hy, rfl⟩ := at_map hy0
          have hyr : y ∈ Rg.rn x := (hys2.2 y).mp (List.mem_of_getElem? hy)
          refine ⟨_, rfl, _, rfl, d, _, rfl, DGet.k (k := Sum.inr (tx y)) hd11, _, rfl, ?_⟩
          rw [valV_kn]
          by_cases ey : y ∈ Rg.keys l ++ ls
          · have ek : (Rg.put l ls (s + 1)).lookup y ≠ none := fun z => Rg.lookup_none.mp z (by rw [Rg.keys_put]; exact ey)
            obtain ⟨k0, ek⟩ := Option.ne_none_iff_exists'.mp ek
            rw [ek]
            refine iteF ⟨ls, _, rfl, s11, hd11, he11, hD11, hp11, md, cv, fun z hz => ?_⟩
            rw [take_succ hy] at hz
            rcases List.mem_append.mp hz with q | q
            · exact ct z q
            · rw [List.mem_singleton] at q
              rw [q]; exact ey
          · have ek : (Rg.put l ls (s + 1)).lookup y = none := Rg.lookup_none.mpr (by rw [Rg.keys_put]; exact ey)
            rw [ek]
            refine iteT ?_
            have ey1 : y ∉ Rg.keys l := fun z => ey (List.mem_append_left _ z)
            have ey2 : y ∉ ls := fun z => ey (List.mem_append_right _ z)
            have md2 := md.snoc hxe hyr ey1 ey2
            have fw : (Rg.keys l ++ (ls ++ [y])).length ≤ 2048 := few _ (md2.nodup v) fun z hz => by
              rcases List.mem_append.mp hz with q | q
              · exact v.reach z q
              · exact ⟨_, md2.steps v z q⟩
            have hln : (Rg.put l ls (s + 1)).length = (Rg.keys l).length + ls.length := by rw [← keys_len, Rg.keys_put, List.length_append]
            rw [List.length_append, List.length_append, List.length_singleton] at fw
            refine ⟨_, rfl, _, rfl, _, rfl, d, _, rfl, DPut.k (k := Sum.inr (tx y)) hd11 (lt_line' (by rw [kn_len, hln]; omega)), ?_⟩
            rw [putK_kn _ (by rw [Rg.keys_put]; exact ey), ← Rg.put_snoc]
            have hd12 : (upd H11 d (.dK (kn (Rg.put l (ls ++ [y]) (s + 1))))) d = some (.dK (kn (Rg.put l (ls ++ [y]) (s + 1)))) := upd_same
            have he12 : (upd H11 d (.dK (kn (Rg.put l (ls ++ [y]) (s + 1))))) e = some (.lst (es.map txV)) := by rw [upd_ne (ne_of he11 hd11 (by intro z; cases z))]; exact he11
            have hD12 : (upd H11 d (.dK (kn (Rg.put l (ls ++ [y]) (s + 1))))) D = some (.lst (ls.map txV)) := by rw [upd_ne (Ne.symm ndD)]; exact hD11
            have hp12 : (upd H11 d (.dK (kn (Rg.put l (ls ++ [y]) (s + 1))))) p4 = some (.lst (ys2.map txV)) := by rw [upd_ne npd]; exact hp11
            have s12 : Same H19 (upd H11 d (.dK (kn (Rg.put l (ls ++ [y]) (s + 1))))) := same_new s11 hd
            generalize upd H11 d (.dK (kn (Rg.put l (ls ++ [y]) (s + 1)))) = H13 at hd12 he12 hD12 hp12 s12 ⊢
            refine ⟨_, rfl, .inl ⟨rfl, _, .of hD12⟩, _, rfl, D, _, txV y, rfl, rfl, hD12, lt_line' (by rw [List.length_map]; omega), ?_⟩
            refine ⟨ls ++ [y], _, rfl, same_new s12 nHD, ?_, ?_, ?_, ?_, md2, fun x0 hx0 y0 hy0 => ?_, fun z hz => ?_⟩
            · rw [upd_ne ndD]; exact hd12
            · rw [upd_ne (Ne.symm hde)]; exact he12
            · rw [upd_same]; simp
            · rw [upd_ne npD]; exact hp12
            · rcases List.mem_append.mp (cv x0 hx0 y0 hy0) with q | q
              · exact List.mem_append_left _ q
              · exact List.mem_append_right _ (List.mem_append_left _ q)
            · rw [take_succ hy] at hz
              rcases List.mem_append.mp hz with q | q
              · rcases List.mem_append.mp (ct z q) with q | q
                · exact List.mem_append_left _ q
                · exact List.mem_append_right _ (List.mem_append_left _ q)
              · exact List.mem_append_right _ (List.mem_append_right _ q)
        · rintro σ H11 ⟨ls, c2, rfl, s11, hd11, he11, hD11, hp11, md, cv, ct⟩
          refine ⟨ls, _, _, rfl, s11, hd11, he11, hD11, md, fun x0 hx0 y0 hy0 => ?_⟩
          rw [take_succ hx] at hx0
          rcases List.mem_append.mp hx0 with q | q
          · exact cv x0 q y0 hy0
          · rw [List.mem_singleton] at q
            subst q
            refine ct y0 ?_
            rw [List.length_map, List.take_length]
            exact (hys2.2 y0).mpr hy0
      · rintro σ H8 ⟨ls, a1, c1, rfl, s8, hd8, he8, hD8, md, cv⟩
        rw [List.length_map, List.take_length] at cv
        exact ⟨_, rfl, 9 - (s + 1), by omega, D, s + 1, _, ls, _, _, _, rfl, s8, hd8, hD8, Rg.lv_step v md cv, rfl⟩
    · have ees : es = [] := by
        cases es with
        | nil => rfl
        | cons => simp at eb
      subst ees
      have hR5 := hR19.later s6
      have hkr : ∀ x, x ∈ Rg.keys l ↔ Rg.Reach (Rg.lturn f) x := Rg.lv_end v
      have hkl : (Rg.keys l).length ≤ 2048 := few _ v.nd v.reach
      have hsrt : ∀ {zs : List W}, Rg.IsSrt zs (· ∈ Rg.keys l) → zs.length ≤ 2048 := fun h => few _ h.nodup fun x hx => (hkr x).mp ((h.2 x).mp hx)
      clear he6
      refine ⟨_, rfl, f, rfl, hf, fun ys5 p5 H6 hys5 s7 np5 hp5 => ⟨_, rfl, d, _, rfl, s7 _ _ hd6, fun q hq => ⟨q, (Rg.keys l).map tx, rfl, .of (by rw [upd_same, kn_keys]), fun zs0 p6 hp hs np6 => ?_⟩⟩⟩
      obtain ⟨zs, rfl, hz⟩ := srt_of v.nd hp hs
      obtain rfl : ys5 = zs := hys5.uniq hz fun x => (hkr x).symm
      rw [map_txV]
      have s8 : Same H5 (upd (upd H6 q (.lst ((kn l).map fun kv => kV kv.1))) p6 (.lst (ys5.map txV))) := (s7.trans (same_upd hq)).trans (same_upd np6)
      have hp6 : (upd (upd H6 q (.lst ((kn l).map fun kv => kV kv.1))) p6 (.lst (ys5.map txV))) p6 = some (.lst (ys5.map txV)) := upd_same
      have hp5' := upd_new (o := .lst (ys5.map txV)) (upd_new (o := .lst ((kn l).map fun kv => kV kv.1)) hp5 hq) np6
      generalize upd (upd H6 q (.lst ((kn l).map fun kv => kV kv.1))) p6 (.lst (ys5.map txV)) = H7 at s8 hp6 hp5' ⊢
      refine ⟨_, _, rfl, .texts hp5' hp6 (by have := hsrt hz; omega), fun H8 s9 => ⟨_, rfl, iteF ?_⟩⟩
      have hd8 := (s8.trans s9) _ _ hd6
      have hR8 := hR5.later (s8.trans s9)
      -- the shortest
      refine ⟨_, rfl, f, rfl, hf, fun b1 H9 s10 sh => ⟨_, rfl, d, _, rfl, s10 _ _ hd8, fun q2 hq2 => ⟨q2, rfl, ⟨_, .of upd_same⟩, fun D hD => ?_⟩⟩⟩
      have hq2' : (upd H9 q2 (.lst ((kn l).map fun kv => kV kv.1))) q2 = some (.lst (((Rg.keys l).map tx).map V.str)) := by rw [upd_same, kn_keys]
      have s11 : Same H8 (upd H9 q2 (.lst ((kn l).map fun kv => kV kv.1))) := s10.trans (same_upd hq2)
      rw [show (kn l).map (fun kv => kV kv.1) = ((Rg.keys l).map tx).map V.str from kn_keys l] at *
      generalize upd H9 q2 (.lst (((Rg.keys l).map tx).map V.str)) = H10 at hq2' s11 hD ⊢
      have hk10 : H10 q2 = some (.lst ((Rg.keys l).map txV)) := by rw [hq2', map_txV]
      refine lc_it walk_list (PvL D H10 (filT (fun _ => true) (fun x : W => nV x.length) (Rg.keys l))) (PvL.start hD rfl) (fun _ _ _ p => .of (p.same _ _ hk10)) ?_ ?_
      · rintro m x H0 H12 hm p12 ⟨rfl, hx0⟩
        obtain ⟨x, hx, rfl⟩ := at_map hx0
        have hx8 := (good x ((hkr x).mp (List.mem_of_getElem? hx))).2.1
        refine ⟨rfl, tyes ⟨_, rfl, _, rfl, txl (by omega), _, p12.at_, lt_line' (Nat.le_trans (filT_len _ _ _ _) (by omega)), ?_⟩⟩
        exact PvL.push hD p12.same (filT_yes hx rfl)
      rintro H11 p11
      have hns : H11 D = some (.lst (((Rg.keys l).map fun x => ((x.length : Nat) : Int)).map V.int)) := by
        rw [p11.at_, List.length_map, filT_all, List.filter_eq_self.mpr (fun _ _ => rfl)]
        simp [List.map_map, Function.comp_def]
      have hstart : Rg.lturn f ∈ Rg.keys l := (hkr _).mpr (Rg.Reach.refl _)
      have hd11 := (s11.trans p11.same) _ _ hd8
      have hR11 := hR8.later (s11.trans p11.same)
      refine ⟨D, _, rfl, .of hns, ?_, fun mn hmn hle => ?_⟩
      · rw [List.length_map]
        exact List.length_pos_iff.mpr (List.ne_nil_of_mem hstart)
      have emn : mn = (b1 : Int) := by
        obtain ⟨⟨g1, hg1, e1⟩, h2⟩ := Rg.short_reach hf.ne sh
        obtain ⟨x, hx, rfl⟩ := List.mem_map.mp hmn
        have h3 := h2 x ((hkr x).mp hx)
        have h4 := hle (g1.length : Int) (List.mem_map.mpr ⟨g1, (hkr g1).mpr hg1, rfl⟩)
        omega
      subst emn
      refine ⟨_, _, rfl, .atom (.inr (.inl ⟨_, rfl⟩)), fun H12 s12 => ⟨_, rfl, iteF ?_⟩⟩
      have hd12 := s12 _ _ hd11
      have hR12 := hR11.later s12
      -- the goal
      refine ⟨fun v' H' => ∃ g2, v' = txV g2 ∧ Film g2 ∧ RowAt K S ns H' R ∧ H' d = some (.dK (kn l)), ?_, ?_⟩
      · have hRr := hR12
        obtain ⟨_, _, _, hRr, _⟩ := hRr
        have hdR : d ≠ R := ne_of hd12 hRr (by intro z; cases z)
        refine ⟨_, rfl, R, S, ns, _, rfl, by decide, by decide, hR12, fun t3 H13 ht3 hR13 b13 => ⟨rfl, _, rfl, iteB (fun e3 => ?_) fun e3 => ?_⟩⟩
        · refine ⟨_, rfl, _, rfl, d, _, rfl, b13 _ _ hdR hd12, fun q hq => ⟨q, (Rg.keys l).map tx, rfl, .of (by rw [upd_same, kn_keys]), fun zs0 p7 hp hs np7 => ?_⟩⟩
          obtain ⟨zs, rfl, hz⟩ := srt_of v.nd hp hs
          rw [map_txV]
          have sm := (same_upd (o := .lst ((kn l).map fun kv => kV kv.1)) hq).trans (same_upd (o := .lst (zs.map txV)) np7)
          have hR14 := hR13.later sm
          have hp7 : (upd (upd H13 q (.lst ((kn l).map fun kv => kV kv.1))) p7 (.lst (zs.map txV))) p7 = some (.lst (zs.map txV)) := upd_same
          have hd14 := sm _ _ (b13 _ _ hdR hd12)
          have hzl := hsrt hz
          have hz0 : Rg.lturn f ∈ zs := (hz.2 _).mpr hstart
          refine ⟨R, S, p7, ns, _, rfl, Ne.symm ((hR13.later (same_upd hq)).ne np7), hp7, ?_, ?_, hR14, fun x H15 hx hR15 b15 => ?_⟩
          · rw [List.length_map]
            exact List.length_pos_iff.mpr (List.ne_nil_of_mem hz0)
          · rw [List.length_map]
            omega
          · obtain ⟨x, hx1, rfl⟩ := List.mem_map.mp hx
            obtain ⟨g1, g2, g3⟩ := good x ((hkr x).mp ((hz.2 x).mp hx1))
            exact ⟨x, rfl, ⟨g1, g2, g3⟩, hR15, b15 _ _ hdR hd14⟩
        · exact ⟨_, rfl, _, rfl, R, S, ns, f, rfl, hf, hR13, fun g2 H14 hg2 hR14 b14 => ⟨g2, rfl, hg2, hR14, b14 _ _ hdR (b13 _ _ hdR hd12)⟩⟩
      rintro v' H13 ⟨g2, rfl, hg2, hR13, hd13⟩
      have g28 := hg2.len
      -- comes
      refine ⟨_, rfl, _, rfl, f, g2, rfl, hf, hg2, fun b2 H14 s14 hb2 => ⟨_, rfl, g2, rfl, hg2.ne, by omega, fun H15 s15 => ?_⟩⟩
      have hd15 := (s14.trans s15) _ _ hd13
      refine ⟨_, rfl, d, _, rfl, DGet.k (k := Sum.inr (tx (Rg.lturn g2))) hd15, _, _, rfl, _, rfl, iteN ?_ ?_⟩
      · rw [valV_kn]
        have e5 : ((l.lookup (Rg.lturn g2)).map nV).isSome = b2 := by
          rw [Bool.eq_iff_iff, hb2, Rg.part_some hf.ne hg2.ne, ← hkr, Option.isSome_map]
          cases e6 : l.lookup (Rg.lturn g2) with
          | none =>
            have := Rg.lookup_none.mp e6
            simp [this]
          | some k6 =>
            have := Rg.mem_keys.mpr ⟨_, Rg.lookup_some e6⟩
            simp [this]
        rw [e5]
        simp
      -- the fewest
      refine ⟨_, rfl, _, rfl, f, g2, rfl, hf, hg2, fun o H16 s16 ho => ⟨_, rfl, d, rfl, .inl ⟨_, .inl (s16 _ _ hd15)⟩, _, rfl, g2, rfl, hg2.ne, by omega, fun H17 s17 => ?_⟩⟩
      have hd17 := (s16.trans s17) _ _ hd15
      refine ⟨_, DGet.k (k := Sum.inr (tx (Rg.lturn g2))) hd17, ?_⟩
      rw [valV_kn, ← (Rg.part_min hf.ne hg2.ne ho).uniq (Rg.lv_min v (Rg.lturn g2))]
      have eo : (o.map nV).getD .non = oV o := by cases o <;> rfl
      rw [eo]
      refine ⟨_, _, rfl, .atom ?_, fun H18 s18 => ⟨_, rfl, iteF ?_⟩⟩
      · cases o with
        | none => exact .inr (.inr rfl)
        | some m5 => exact .inr (.inl ⟨_, rfl⟩)
      -- the partings
      refine ⟨_, rfl, _, rfl, ?_, ?_, fun D2 hD2 => ?_⟩
      · rw [tx_len]; omega
      · rw [tx_len]; omega
      rw [tx_len, Int.toNat_natCast]
      refine lc_it walk_range (PvL D2 H18 (mapL fun i => nV (Rg.cw g2 (Rg.rot f i)))) (PvL.start hD2 rfl) (fun _ _ _ _ => trivial) ?_ ?_
      · rintro i x H0 H20 hi p20 ⟨rfl, ex⟩
        have ex := int_eq ex (show (0 : Int) + (i : Int) = (i : Int) by omega)
        subst ex
        refine ⟨rfl, tyes ?_⟩
        refine ⟨_, rfl, _, rfl, _, rfl, _, rfl, hlf, _, rfl, _, rfl, _, rfl, _, rfl, hlf, _, _, rfl, rfl, ?_, _, rfl, Rg.rot f i, g2, ?_, by rw [Rg.rot_len]; exact f8, hg2.ne, g28, fun p8 xs H21 s21 hp8 hx8 => ?_⟩
        · rw [cut_from, cut_to, tx_len, tx_len, List.length_drop, List.length_take]
          exact Nat.le_trans (by omega) (show 1000 ≤ sizeLine by decide)
        · rw [cut_from, cut_to, tx_app]
          rfl
        · refine ⟨p8, xs, rfl, .inl (.of hp8), ?_⟩
          rw [hx8]
          exact ⟨_, s21 _ _ p20.at_, lt_line (by rw [mapL_len]; omega), PvL.push hD2 (p20.same.trans s21) (mapL_succ _ _)⟩
      · intro H20 p20
        refine ⟨D2, (List.range f.length).map fun i => ((Rg.cw g2 (Rg.rot f i) : Nat) : Int), rfl, .of ?_, ?_⟩
        · rw [p20.at_]
          simp [mapL, List.map_map, Function.comp_def]
        · exact ⟨_, rfl, _, rfl, f, g2, rfl, hf, hg2, fun H21 s21 => ⟨_, rfl, _, _, rfl, .atom (.inr (.inl ⟨_, rfl⟩)), fun H22 s22 => k H22⟩⟩
end
end G
set_option Elab.async false
set_option linter.all false
set_option maxRecDepth 100000
set_option maxHeartbeats 0
/-! The head: the top run once, its facts by names. -/
namespace G
open PySem PySem.W PySem.Calls PyProof.Rows L2
abbrev R : OpenRow := OpenLaw.row PySem.Challenge.rw_jumpcuts_k12_whole_rings
abbrev hk : Hook := He.hookD 5 fa fn
def ob (s : SharedT) : He.AlD := He.obsDG 5 fa fn (HandSHeadRun.getT s)
theorem ob_eq (s : SharedT) : ob s = hk.obs s.abs := He.obsDG_eq (HandSHeadRun.getT_eq s)
def names1 : List PySem.Str := ["CutError", "BadFilm", "TooLong", "LETTERS", "MOST_FILM", "MOST_RING", "MOST_LISTED", "__name__", "need_film", "need_short", "begin", "is_reached", "ways_behind", "fewest_of", "turned", "least_turn", "ring_name", "same_ring", "need_ring", "ring_next_of"]
def names2 : List PySem.Str := ["ring_next", "ring_comes", "ring_fewest", "ring_partings", "ring_outcomes", "ring_shortest", "is_last_ring", "ring_period", "_law_taken", "_law_pick", "_law_alike", "_law_is", "_law_film", "_law_drawn", "_law_partings", "_law_goal", "_law_turn", "_law_ring_next"]
def names : List PySem.Str := names1 ++ names2
theorem run (w : World) : HandSHeadRun.RunEq R (view R.prog [43]) hk ob 6000 names w := by
  intro os
  kernel_rfl
end G
set_option Elab.async false
set_option linter.all false
set_option maxRecDepth 100000
set_option maxHeartbeats 0
/-! The end: the promises by the head's facts, the statement. -/
namespace G
open PySem PySem.Spec PyProof.Rows L2
theorem df_of {P : Program} {w : World} {K : PySem.W.Frag} {mg : Str → Option Value} {base : Heap} {x : Str} {st : Stmt} {f : Addr} {fd : FuncData} {ps : List Str} {k : Nat} {sp : Sp} (F : FnP K x st f fd) (hm : mg x = some (.ref f)) (hb : Binds K fd ps [])
    (h : FnOk P w K mg base CX0 k f fd ps sp) : Df P w K mg base x ps k sp := ⟨f, fd, hm, F.kp, hb, h⟩
theorem facts {P : Program} {w : World} {K : PySem.W.Frag} {h : Heap} {mg : Str → Option Value} {f : Addr} (X : K.In h) (N : h.Ns mainGlobals mg) (hfa : mg ("law" : Str) = some (.ref f)) (c : He.SaysD fa fn K) :
    ∃ fd : FuncData, (∀ (s : Shared) (v : Value), BindsTo s fd ⟨[v], []⟩ [("_law_script", v)]) ∧ ∀ base : Heap, K.In base → base.Ns mainGlobals mg → FnOk P w K mg base CX0 5 f fd ["_law_script"] (spLaw K) := by
  obtain ⟨fd0, F0⟩ := c.def_ 0 (d := dOf "need_film" sNeedFilm) rfl
  have F0 : FnP K "need_film" sNeedFilm (He.ga K "need_film") fd0 := F0
  obtain ⟨fd1, F1⟩ := c.def_ 1 (d := dOf "need_short" sNeedShort) rfl
  have F1 : FnP K "need_short" sNeedShort (He.ga K "need_short") fd1 := F1
  obtain ⟨fd2, F2⟩ := c.def_ 2 (d := dOf "begin" sBegin) rfl
  have F2 : FnP K "begin" sBegin (He.ga K "begin") fd2 := F2
  obtain ⟨fd3, F3⟩ := c.def_ 3 (d := dOf "is_reached" sIsReached) rfl
  have F3 : FnP K "is_reached" sIsReached (He.ga K "is_reached") fd3 := F3
  obtain ⟨fd4, F4⟩ := c.def_ 4 (d := dOf "ways_behind" sWaysBehind) rfl
  have F4 : FnP K "ways_behind" sWaysBehind (He.ga K "ways_behind") fd4 := F4
  obtain ⟨fd5, F5⟩ := c.def_ 5 (d := dOf "fewest_of" sFewestOf) rfl
  have F5 : FnP K "fewest_of" sFewestOf (He.ga K "fewest_of") fd5 := F5
  obtain ⟨fd6, F6⟩ := c.def_ 6 (d := dOf "turned" sTurned) rfl
  have F6 : FnP K "turned" sTurned (He.ga K "turned") fd6 := F6
  obtain ⟨fd7, F7⟩ := c.def_ 7 (d := dOf "least_turn" sLeastTurn) rfl
  have F7 : FnP K "least_turn" sLeastTurn (He.ga K "least_turn") fd7 := F7
  obtain ⟨fd8, F8⟩ := c.def_ 8 (d := dOf "ring_name" sRingName) rfl
  have F8 : FnP K "ring_name" sRingName (He.ga K "ring_name") fd8 := F8
  obtain ⟨fd9, F9⟩ := c.def_ 9 (d := dOf "same_ring" sSameRing) rfl
  have F9 : FnP K "same_ring" sSameRing (He.ga K "same_ring") fd9 := F9
  obtain ⟨fd10, F10⟩ := c.def_ 10 (d := dOf "need_ring" sNeedRing) rfl
  have F10 : FnP K "need_ring" sNeedRing (He.ga K "need_ring") fd10 := F10
  obtain ⟨fd11, F11⟩ := c.def_ 11 (d := dOf "ring_next_of" sRingNextOf) rfl
  have F11 : FnP K "ring_next_of" sRingNextOf (He.ga K "ring_next_of") fd11 := F11
  obtain ⟨fd12, F12⟩ := c.def_ 12 (d := dOf "ring_next" sRingNext) rfl
  have F12 : FnP K "ring_next" sRingNext (He.ga K "ring_next") fd12 := F12
  obtain ⟨fd13, F13⟩ := c.def_ 13 (d := dOf "ring_comes" sRingComes) rfl
  have F13 : FnP K "ring_comes" sRingComes (He.ga K "ring_comes") fd13 := F13
  obtain ⟨fd14, F14⟩ := c.def_ 14 (d := dOf "ring_fewest" sRingFewest) rfl
  have F14 : FnP K "ring_fewest" sRingFewest (He.ga K "ring_fewest") fd14 := F14
  obtain ⟨fd15, F15⟩ := c.def_ 15 (d := dOf "ring_partings" sRingPartings) rfl
  have F15 : FnP K "ring_partings" sRingPartings (He.ga K "ring_partings") fd15 := F15
  obtain ⟨fd16, F16⟩ := c.def_ 16 (d := dOf "ring_outcomes" sRingOutcomes) rfl
  have F16 : FnP K "ring_outcomes" sRingOutcomes (He.ga K "ring_outcomes") fd16 := F16
  obtain ⟨fd17, F17⟩ := c.def_ 17 (d := dOf "ring_shortest" sRingShortest) rfl
  have F17 : FnP K "ring_shortest" sRingShortest (He.ga K "ring_shortest") fd17 := F17
  obtain ⟨fd18, F18⟩ := c.def_ 18 (d := dOf "is_last_ring" sIsLastRing) rfl
  have F18 : FnP K "is_last_ring" sIsLastRing (He.ga K "is_last_ring") fd18 := F18
  obtain ⟨fd19, F19⟩ := c.def_ 19 (d := dOf "ring_period" sRingPeriod) rfl
  have F19 : FnP K "ring_period" sRingPeriod (He.ga K "ring_period") fd19 := F19
  obtain ⟨fd20, F20⟩ := c.def_ 20 (d := dOf "_law_taken" sLawTaken) rfl
  have F20 : FnP K "_law_taken" sLawTaken (He.ga K "_law_taken") fd20 := F20
  obtain ⟨fd21, F21⟩ := c.def_ 21 (d := dOf "_law_pick" sLawPick) rfl
  have F21 : FnP K "_law_pick" sLawPick (He.ga K "_law_pick") fd21 := F21
  obtain ⟨fd22, F22⟩ := c.def_ 22 (d := dOf "_law_alike" sLawAlike) rfl
  have F22 : FnP K "_law_alike" sLawAlike (He.ga K "_law_alike") fd22 := F22
  obtain ⟨fd23, F23⟩ := c.def_ 23 (d := dOf "_law_is" sLawIs) rfl
  have F23 : FnP K "_law_is" sLawIs (He.ga K "_law_is") fd23 := F23
  obtain ⟨fd24, F24⟩ := c.def_ 24 (d := dOf "_law_film" sLawFilm) rfl
  have F24 : FnP K "_law_film" sLawFilm (He.ga K "_law_film") fd24 := F24
  obtain ⟨fd25, F25⟩ := c.def_ 25 (d := dOf "_law_drawn" sLawDrawn) rfl
  have F25 : FnP K "_law_drawn" sLawDrawn (He.ga K "_law_drawn") fd25 := F25
  obtain ⟨fd26, F26⟩ := c.def_ 26 (d := dOf "_law_partings" sLawPartings) rfl
  have F26 : FnP K "_law_partings" sLawPartings (He.ga K "_law_partings") fd26 := F26
  obtain ⟨fd27, F27⟩ := c.def_ 27 (d := dOf "_law_goal" sLawGoal) rfl
  have F27 : FnP K "_law_goal" sLawGoal (He.ga K "_law_goal") fd27 := F27
  obtain ⟨fd28, F28⟩ := c.def_ 28 (d := dOf "_law_turn" sLawTurn) rfl
  have F28 : FnP K "_law_turn" sLawTurn (He.ga K "_law_turn") fd28 := F28
  obtain ⟨fd29, F29⟩ := c.def_ 29 (d := dOf "_law_ring_next" sLawRingNext) rfl
  have F29 : FnP K "_law_ring_next" sLawRingNext (He.ga K "_law_ring_next") fd29 := F29
  obtain ⟨fd30, F30⟩ := c.def_ 30 (d := dOf "law" sLaw) rfl
  have F30 : FnP K "law" sLaw (He.ga K "law") fd30 := F30
  have g0 := He.glo_ok X N (c.fact 0 (f := .glo "need_film") rfl)
  have b0 : Binds K fd0 ["value"] [] := F0.bindsN fun _ _ _ _ _ _ us hl => match us, hl with | [_], _ => rfl
  have g1 := He.glo_ok X N (c.fact 1 (f := .glo "need_short") rfl)
  have b1 : Binds K fd1 ["film", "most"] [] := F1.bindsN fun _ _ _ _ _ _ us hl => match us, hl with | [_, _], _ => rfl
  have g2 := He.glo_ok X N (c.fact 2 (f := .glo "begin") rfl)
  have b2 : Binds K fd2 ["film", "goal"] [] := F2.bindsN fun _ _ _ _ _ _ us hl => match us, hl with | [_, _], _ => rfl
  have g3 := He.glo_ok X N (c.fact 3 (f := .glo "is_reached") rfl)
  have b3 : Binds K fd3 ["film", "goal"] [] := F3.bindsN fun _ _ _ _ _ _ us hl => match us, hl with | [_, _], _ => rfl
  have g4 := He.glo_ok X N (c.fact 4 (f := .glo "ways_behind") rfl)
  have b4 : Binds K fd4 ["film", "goal"] [] := F4.bindsN fun _ _ _ _ _ _ us hl => match us, hl with | [_, _], _ => rfl
  have g5 := He.glo_ok X N (c.fact 5 (f := .glo "fewest_of") rfl)
  have b5 : Binds K fd5 ["film", "goal"] [] := F5.bindsN fun _ _ _ _ _ _ us hl => match us, hl with | [_, _], _ => rfl
  have g6 := He.glo_ok X N (c.fact 6 (f := .glo "turned") rfl)
  have b6 : Binds K fd6 ["film", "place"] [] := F6.bindsN fun _ _ _ _ _ _ us hl => match us, hl with | [_, _], _ => rfl
  have g7 := He.glo_ok X N (c.fact 7 (f := .glo "least_turn") rfl)
  have b7 : Binds K fd7 ["film"] [] := F7.bindsN fun _ _ _ _ _ _ us hl => match us, hl with | [_], _ => rfl
  have g8 := He.glo_ok X N (c.fact 8 (f := .glo "ring_name") rfl)
  have b8 : Binds K fd8 ["film"] [] := F8.bindsN fun _ _ _ _ _ _ us hl => match us, hl with | [_], _ => rfl
  have g9 := He.glo_ok X N (c.fact 9 (f := .glo "same_ring") rfl)
  have b9 : Binds K fd9 ["one", "other"] [] := F9.bindsN fun _ _ _ _ _ _ us hl => match us, hl with | [_, _], _ => rfl
  have g10 := He.glo_ok X N (c.fact 10 (f := .glo "need_ring") rfl)
  have b10 : Binds K fd10 ["film"] [] := F10.bindsN fun _ _ _ _ _ _ us hl => match us, hl with | [_], _ => rfl
  have g11 := He.glo_ok X N (c.fact 11 (f := .glo "ring_next_of") rfl)
  have b11 : Binds K fd11 ["film"] [] := F11.bindsN fun _ _ _ _ _ _ us hl => match us, hl with | [_], _ => rfl
  have g12 := He.glo_ok X N (c.fact 12 (f := .glo "ring_next") rfl)
  have b12 : Binds K fd12 ["film"] [] := F12.bindsN fun _ _ _ _ _ _ us hl => match us, hl with | [_], _ => rfl
  have g13 := He.glo_ok X N (c.fact 13 (f := .glo "ring_comes") rfl)
  have b13 : Binds K fd13 ["film", "goal"] [] := F13.bindsN fun _ _ _ _ _ _ us hl => match us, hl with | [_, _], _ => rfl
  have g14 := He.glo_ok X N (c.fact 14 (f := .glo "ring_fewest") rfl)
  have b14 : Binds K fd14 ["film", "goal"] [] := F14.bindsN fun _ _ _ _ _ _ us hl => match us, hl with | [_, _], _ => rfl
  have g15 := He.glo_ok X N (c.fact 15 (f := .glo "ring_partings") rfl)
  have b15 : Binds K fd15 ["film", "goal"] [] := F15.bindsN fun _ _ _ _ _ _ us hl => match us, hl with | [_, _], _ => rfl
  have g16 := He.glo_ok X N (c.fact 16 (f := .glo "ring_outcomes") rfl)
  have b16 : Binds K fd16 ["film"] [] := F16.bindsN fun _ _ _ _ _ _ us hl => match us, hl with | [_], _ => rfl
  have g17 := He.glo_ok X N (c.fact 17 (f := .glo "ring_shortest") rfl)
  have b17 : Binds K fd17 ["film"] [] := F17.bindsN fun _ _ _ _ _ _ us hl => match us, hl with | [_], _ => rfl
  have g18 := He.glo_ok X N (c.fact 18 (f := .glo "is_last_ring") rfl)
  have b18 : Binds K fd18 ["film"] [] := F18.bindsN fun _ _ _ _ _ _ us hl => match us, hl with | [_], _ => rfl
  have g19 := He.glo_ok X N (c.fact 19 (f := .glo "ring_period") rfl)
  have b19 : Binds K fd19 ["film"] [] := F19.bindsN fun _ _ _ _ _ _ us hl => match us, hl with | [_], _ => rfl
  have g20 := He.glo_ok X N (c.fact 20 (f := .glo "_law_taken") rfl)
  have b20 : Binds K fd20 ["_law_row", "_law_many"] [] := F20.bindsN fun _ _ _ _ _ _ us hl => match us, hl with | [_, _], _ => rfl
  have g21 := He.glo_ok X N (c.fact 21 (f := .glo "_law_pick") rfl)
  have b21 : Binds K fd21 ["_law_row", "_law_things"] [] := F21.bindsN fun _ _ _ _ _ _ us hl => match us, hl with | [_, _], _ => rfl
  have g22 := He.glo_ok X N (c.fact 22 (f := .glo "_law_alike") rfl)
  have b22 : Binds K fd22 ["_law_found", "_law_due"] [] := F22.bindsN fun _ _ _ _ _ _ us hl => match us, hl with | [_, _], _ => rfl
  have g23 := He.glo_ok X N (c.fact 23 (f := .glo "_law_is") rfl)
  have b23 : Binds K fd23 ["_law_found", "_law_due"] [] := F23.bindsN fun _ _ _ _ _ _ us hl => match us, hl with | [_, _], _ => rfl
  have g24 := He.glo_ok X N (c.fact 24 (f := .glo "_law_film") rfl)
  have b24 : Binds K fd24 ["_law_row", "_law_most", "_law_many"] [] := F24.bindsN fun _ _ _ _ _ _ us hl => match us, hl with | [_, _, _], _ => rfl
  have g25 := He.glo_ok X N (c.fact 25 (f := .glo "_law_drawn") rfl)
  have b25 : Binds K fd25 ["_law_row", "_law_film_here", "_law_most"] [] := F25.bindsN fun _ _ _ _ _ _ us hl => match us, hl with | [_, _, _], _ => rfl
  have g26 := He.glo_ok X N (c.fact 26 (f := .glo "_law_partings") rfl)
  have b26 : Binds K fd26 ["_law_film_here", "_law_goal_here"] [] := F26.bindsN fun _ _ _ _ _ _ us hl => match us, hl with | [_, _], _ => rfl
  have g27 := He.glo_ok X N (c.fact 27 (f := .glo "_law_goal") rfl)
  have b27 : Binds K fd27 ["_law_row", "_law_film_here"] [] := F27.bindsN fun _ _ _ _ _ _ us hl => match us, hl with | [_, _], _ => rfl
  have g28 := He.glo_ok X N (c.fact 28 (f := .glo "_law_turn") rfl)
  have b28 : Binds K fd28 ["_law_film_here"] [] := F28.bindsN fun _ _ _ _ _ _ us hl => match us, hl with | [_], _ => rfl
  have g29 := He.glo_ok X N (c.fact 29 (f := .glo "_law_ring_next") rfl)
  have b29 : Binds K fd29 ["_law_film_here"] [] := F29.bindsN fun _ _ _ _ _ _ us hl => match us, hl with | [_], _ => rfl
  have e := hfa.symm.trans (He.glo_ok X N (c.fact 30 (f := .glo "law") rfl))
  cases e
  have bl := FunD.bindsA (ps := ["_law_script"]) F30 fun _ _ _ _ _ _ us hl => match us, hl with | [_], _ => rfl
  have T : Fr mg := by
    have t0 := He.free_ok X N (c.fact 31 (f := .free "len") rfl)
    have t1 := He.free_ok X N (c.fact 32 (f := .free "isinstance") rfl)
    have t2 := He.free_ok X N (c.fact 33 (f := .free "str") rfl)
    have t3 := He.free_ok X N (c.fact 34 (f := .free "enumerate") rfl)
    have t4 := He.free_ok X N (c.fact 35 (f := .free "tuple") rfl)
    have t5 := He.free_ok X N (c.fact 36 (f := .free "range") rfl)
    have t6 := He.free_ok X N (c.fact 37 (f := .free "min") rfl)
    have t7 := He.free_ok X N (c.fact 38 (f := .free "sorted") rfl)
    have t8 := He.free_ok X N (c.fact 39 (f := .free "any") rfl)
    have t9 := He.free_ok X N (c.fact 40 (f := .free "sum") rfl)
    have t10 := He.free_ok X N (c.fact 41 (f := .free "set") rfl)
    have t11 := He.free_ok X N (c.fact 42 (f := .free "int") rfl)
    have t12 := He.free_ok X N (c.fact 43 (f := .free "list") rfl)
    have t13 := He.free_ok X N (c.fact 44 (f := .free "bool") rfl)
    obtain ⟨v0, u0⟩ := He.str_ok X N (c.fact 45 (f := .str "LETTERS" "abcdefgh") rfl)
    obtain ⟨v1, u1⟩ := He.int_ok X N (c.fact 46 (f := .int "MOST_FILM" 200) rfl)
    obtain ⟨v2, u2⟩ := He.int_ok X N (c.fact 47 (f := .int "MOST_RING" 60) rfl)
    obtain ⟨v3, u3⟩ := He.int_ok X N (c.fact 48 (f := .int "MOST_LISTED" 12) rfl)
    exact ⟨t0, t1, t2, t3, t4, t5, t6, t7, t8, t9, t10, t11, t12, t13, ⟨_, u0, _, rfl⟩, ⟨_, u1, _, rfl⟩, ⟨_, u2, _, rfl⟩, ⟨_, u3, _, rfl⟩⟩
  refine ⟨fd30, fun s v => bl s [v] rfl, fun base _ _ => ?_⟩
  have D_law_taken : Df P w K mg base "_law_taken" ["_law_row", "_law_many"] 1 (spTaken K) := df_of F20 g20 b20 (ok_law_taken F20 T )
  have D_law_film : Df P w K mg base "_law_film" ["_law_row", "_law_most", "_law_many"] 2 (spLawFilm K) := df_of F24 g24 b24 (ok_law_film F24 T D_law_taken)
  have D_law_turn : Df P w K mg base "_law_turn" ["_law_film_here"] 1 spTurn := df_of F28 g28 b28 (ok_law_turn F28 T )
  have D_law_alike0 : Df P w K mg base "_law_alike" ["_law_found", "_law_due"] 1 (spAlike 0) := df_of F22 g22 b22 (ok_law_alike0 F22)
  have D_law_alike1 : Df P w K mg base "_law_alike" ["_law_found", "_law_due"] 2 (spAlike 1) := df_of F22 g22 b22 (ok_law_alike F22 T D_law_alike0)
  have D_law_alike2 : Df P w K mg base "_law_alike" ["_law_found", "_law_due"] 3 (spAlike 2) := df_of F22 g22 b22 (ok_law_alike F22 T D_law_alike1)
  have D_law_alike3 : Df P w K mg base "_law_alike" ["_law_found", "_law_due"] 4 (spAlike 3) := df_of F22 g22 b22 (ok_law_alike F22 T D_law_alike2)
  have Dneed_film : Df P w K mg base "need_film" ["value"] 1 spNeedFilm := df_of F0 g0 b0 (ok_need_film F0 T )
  have Dturned : Df P w K mg base "turned" ["film", "place"] 1 spTurned := df_of F6 g6 b6 (ok_turned F6 T )
  have Dleast_turn : Df P w K mg base "least_turn" ["film"] 2 spTurn := df_of F7 g7 b7 (ok_least_turn F7 T Dturned)
  have Dring_name : Df P w K mg base "ring_name" ["film"] 3 spRingName := df_of F8 g8 b8 (ok_ring_name F8 T Dneed_film Dleast_turn)
  have Dneed_short : Df P w K mg base "need_short" ["film", "most"] 1 spNeedShort := df_of F1 g1 b1 (ok_need_short F1 T )
  have Dneed_ring : Df P w K mg base "need_ring" ["film"] 2 spNeedFilm := df_of F10 g10 b10 (ok_need_ring F10 T Dneed_film Dneed_short)
  have Dring_next_of : Df P w K mg base "ring_next_of" ["film"] 3 spNext := df_of F11 g11 b11 (ok_ring_next_of F11 T Dturned Dleast_turn)
  have Dring_next : Df P w K mg base "ring_next" ["film"] 4 spNextF := df_of F12 g12 b12 (ok_ring_next F12 T Dneed_ring Dring_next_of)
  have D_law_ring_next : Df P w K mg base "_law_ring_next" ["_law_film_here"] 2 spNext := df_of F29 g29 b29 (ok_law_ring_next F29 T D_law_turn)
  have D_law_is : Df P w K mg base "_law_is" ["_law_found", "_law_due"] 1 spLawIs := df_of F23 g23 b23 (ok_law_is F23 T )
  have Dsame_ring : Df P w K mg base "same_ring" ["one", "other"] 3 spSameRing := df_of F9 g9 b9 (ok_same_ring F9 T Dneed_film Dleast_turn)
  have Dis_last_ring : Df P w K mg base "is_last_ring" ["film"] 2 spLast := df_of F18 g18 b18 (ok_is_last_ring F18 T Dneed_film)
  have Dring_period : Df P w K mg base "ring_period" ["film"] 2 spPeriod := df_of F19 g19 b19 (ok_ring_period F19 T Dneed_film Dturned)
  have Dring_outcomes : Df P w K mg base "ring_outcomes" ["film"] 4 spOutcomes := df_of F16 g16 b16 (ok_ring_outcomes F16 T Dneed_film Dneed_short Dleast_turn Dring_next_of)
  have Dring_shortest : Df P w K mg base "ring_shortest" ["film"] 3 spShortest := df_of F17 g17 b17 (ok_ring_shortest F17 T Dneed_ring Dturned)
  have D_law_pickL : Df P w K mg base "_law_pick" ["_law_row", "_law_things"] 2 (spPickL K) := df_of F21 g21 b21 (ok_law_pickL F21 T D_law_taken)
  have D_law_pickS : Df P w K mg base "_law_pick" ["_law_row", "_law_things"] 2 (spPickS K) := df_of F21 g21 b21 (ok_law_pickS F21 T D_law_taken)
  have D_law_drawn : Df P w K mg base "_law_drawn" ["_law_row", "_law_film_here", "_law_most"] 3 (spLawDrawn K) := df_of F25 g25 b25 (ok_law_drawn F25 T D_law_taken D_law_pickL)
  have D_law_goal : Df P w K mg base "_law_goal" ["_law_row", "_law_film_here"] 4 (spLawGoal K) := df_of F27 g27 b27 (ok_law_goal F27 T D_law_taken D_law_pickS D_law_drawn)
  have Dbegin : Df P w K mg base "begin" ["film", "goal"] 1 spBegin := df_of F2 g2 b2 (ok_begin F2 T )
  have Dis_reached : Df P w K mg base "is_reached" ["film", "goal"] 2 spReached := df_of F3 g3 b3 (ok_is_reached F3 T Dbegin)
  have Dring_comes : Df P w K mg base "ring_comes" ["film", "goal"] 3 spComes := df_of F13 g13 b13 (ok_ring_comes F13 T Dneed_film Dneed_short Dturned Dis_reached)
  have Dfewest_of : Df P w K mg base "fewest_of" ["film", "goal"] 1 spFewest := df_of F5 g5 b5 (ok_fewest_of F5 T )
  have Dring_fewest : Df P w K mg base "ring_fewest" ["film", "goal"] 2 spRingFewest := df_of F14 g14 b14 (ok_ring_fewest F14 T Dneed_film Dneed_short Dturned Dfewest_of)
  have D_law_partings : Df P w K mg base "_law_partings" ["_law_film_here", "_law_goal_here"] 1 spLawPartings := df_of F26 g26 b26 (ok_law_partings F26 T )
  have Dways_behind : Df P w K mg base "ways_behind" ["film", "goal"] 1 spWays := df_of F4 g4 b4 (ok_ways_behind F4 T )
  have Dring_partings : Df P w K mg base "ring_partings" ["film", "goal"] 2 spPartings := df_of F15 g15 b15 (ok_ring_partings F15 T Dneed_film Dneed_short Dturned Dways_behind)
  exact ok_law F30 T D_law_film D_law_taken D_law_turn D_law_alike3 Dring_name Dring_next D_law_ring_next D_law_is Dsame_ring Dis_last_ring Dring_period Dring_outcomes Dring_shortest D_law_pickL D_law_goal Dring_comes Dring_fewest D_law_partings Dring_partings
end G
open PySem PySem.W PySem.Calls PyProof.Rows
theorem PySem.Challenge.cw_jumpcuts_k12_whole_rings_holds : PySem.Challenge.rw_jumpcuts_k12_whole_rings.Holds := by
  w_on; o_law
  refine HandSHeadRun.head_any (r := OpenLaw.row PySem.Challenge.rw_jumpcuts_k12_whole_rings) (q := view (OpenLaw.row PySem.Challenge.rw_jumpcuts_k12_whole_rings).prog [43]) (H := G.hk) (ob := G.ob) (M := 6000) (loose := G.names) (d := HandSHeadRun.topDef (OpenLaw.row PySem.Challenge.rw_jumpcuts_k12_whole_rings).prog 43) (kwd := []) G.ob_eq
    (by kernel_rfl) (fun s => by kernel_rfl) G.run (by kernel_rfl) (by kernel_rfl) (by kernel_rfl) (by rfl) (by first | assumption | decide +kernel) (by decide +kernel) ⟨rfl, rfl, rfl, rfl, rfl, by decide +kernel⟩ ?hw ?hc
  case hw => w_witness2
  case hc =>
    refine L2.walk_ofE (l := PySem.Challenge.rw_jumpcuts_k12_whole_rings) (n := 63) (k := 5) (x := "_law_script") (CX := L2.CX0) rfl (by decide) (by kernel_rfl) ⟨rfl, by decide, by decide⟩ ?F (fun _ _ _ _ z => z)
    intro w mg fa h Y N hmg0
    obtain ⟨K, KX, c⟩ := Y
    have hmg : mg ("law" : PySem.Str) = some (.ref fa) := by
      have e : (HandSHeadRun.topDef (OpenLaw.row PySem.Challenge.rw_jumpcuts_k12_whole_rings).prog 43).name = ("law" : PySem.Str) := by kernel_rfl
      rw [← e]
      exact hmg0
    obtain ⟨fd, hb, hF⟩ := G.facts (P := (PySem.Challenge.rw_jumpcuts_k12_whole_rings).prog) (w := w) KX N hmg c
    exact ⟨K, fd, G.spLaw K, KX, hb, fun H a ns hl _ hS => ⟨a, ns, rfl, hS, fun _ => rfl⟩, hF⟩
