import PyProof.Rows.All
import Wide.All
import OpenK.AllK
import Wide.FinOn
import HandS.ForMost
import HandS.TupAny
import HandS.IsInst
import HandS.SetFor
import HandS.Strs
import HandS.Conv
import HandS.Codes
import KE.KDictDisplayH
import KE.KDictKeyed
import PySem.Challenge.RW_flyovers_k17_whole_fewest_exchanges
set_option Elab.async false
set_option linter.all false
set_option maxRecDepth 100000
set_option maxHeartbeats 4000000
namespace K17
open PySem L2
/-! ### the text by places -/
def top (i : Nat) : Stmt := PySem.Challenge.pw_flyovers_k17_whole_fewest_exchanges.main.body.getD i (.Pass ⟨0, 0, 0, 0⟩)
abbrev sIsInteger : Stmt := top 7
abbrev sIsBetween : Stmt := top 8
abbrev sIsIndex : Stmt := top 9
abbrev sIsIntegers : Stmt := top 10
abbrev sIsRow : Stmt := top 13
abbrev sCheckRow : Stmt := top 14
abbrev sNextPlace : Stmt := top 16
abbrev sWayOf : Stmt := top 17
abbrev sCheckBoth : Stmt := top 18
abbrev sIsThinning : Stmt := top 19
abbrev sIsExchange : Stmt := top 22
abbrev sExchangedBy : Stmt := top 23
abbrev sExchanged : Stmt := top 24
abbrev sAllExchanges : Stmt := top 25
abbrev sRoadOf : Stmt := top 26
abbrev sCheckOut : Stmt := top 27
abbrev sFewestOf : Stmt := top 28
abbrev sFewest : Stmt := top 29
abbrev sHand : Stmt := top 31
abbrev sDraw : Stmt := top 32
abbrev sSome : Stmt := top 33
abbrev sIs : Stmt := top 34
abbrev sRow : Stmt := top 35
abbrev sThinned : Stmt := top 36
abbrev sWord : Stmt := top 37
abbrev sThins : Stmt := top 38
abbrev sRows : Stmt := top 39
abbrev sLExchanged : Stmt := top 40
abbrev sLExchanges : Stmt := top 41
abbrev sLevels : Stmt := top 42
abbrev sMade : Stmt := top 43
abbrev sNumber : Stmt := top 44
abbrev sWide : Stmt := top 45
abbrev sLaw : Stmt := top 46
/-- the def st stands under the name x, its parameters ps -/
def Has (K : PySem.W.Frag) (mg : Str → Option Value) (x : Str) (st : Stmt) (ps : List Str) : Prop :=
  ∃ (f : Addr) (fd : FuncData), Fun K x x st f fd ∧ mg x = some (.ref f) ∧ Binds K fd ps []
theorem has_mk {K : PySem.W.Frag} {h : Heap} {mg : Str → Option Value} (X : K.In h) (G : h.Ns mainGlobals mg) {x : Str} {st : Stmt} {ps : List Str} {f : Addr} {oc : Value} {od an : Option Addr} {osl : Array (Option Value)} {kV doc pm cdv ct : Value}
    (a : PySem.W.nsIn K mainGlobals x = some (some (.ref f))) (l : K.lookup f = some ⟨oc, od, .func (PySem.W.fnOf x x (defArgs st) (defBody st) (defScope st) .none kV doc pm an cdv ct), osl⟩)
    (c : PySem.W.codeIn K cdv x = true) (k : PySem.W.keepIn K (.ref f) = true)
    (hb : ∀ (kV doc pm : Value) (an : Option Addr) (cdv ct : Value) (us : List Value), us.length = ps.length → bindArgs (PySem.W.fnOf x x (defArgs st) (defBody st) (defScope st) .none kV doc pm an cdv ct) ⟨us, []⟩ = pure (ps.zip us)) : Has K mg x st ps :=
  ⟨f, _, fun_mk l c k, PySem.W.mg_of X G a, (fun_mk l c k).binds hb⟩
theorem const_mk {K : PySem.W.Frag} {h : Heap} {mg : Str → Option Value} (X : K.In h) (G : h.Ns mainGlobals mg) {x : Str} {i : Int} {t : Tok} (a : PySem.W.nsIn K mainGlobals x = some (some (.int i t))) : ∃ t, mg x = some (.int i t) :=
  ⟨t, PySem.W.mg_of X G a⟩
/-- what the top has written -/
structure Txt (K : PySem.W.Frag) (mg : Str → Option Value) : Prop where
  isInteger : Has K mg "is_integer" sIsInteger ["thing"]
  isBetween : Has K mg "is_between" sIsBetween ["thing", "least", "most"]
  isIndex : Has K mg "is_index" sIsIndex ["thing", "many"]
  isIntegers : Has K mg "is_integers" sIsIntegers ["thing", "many"]
  isRow : Has K mg "is_row" sIsRow ["thing"]
  checkRow : Has K mg "check_row" sCheckRow ["thing"]
  nextPlace : Has K mg "next_place" sNextPlace ["row", "first", "letter"]
  wayOf : Has K mg "way_of" sWayOf ["row", "out"]
  checkBoth : Has K mg "check_both" sCheckBoth ["row", "out"]
  isThinning : Has K mg "is_thinning" sIsThinning ["row", "out"]
  isExchange : Has K mg "is_exchange" sIsExchange ["thing", "lanes"]
  exchangedBy : Has K mg "exchanged_by" sExchangedBy ["row", "a", "b", "c"]
  exchanged : Has K mg "exchanged" sExchanged ["row", "a", "b", "c"]
  allExchanges : Has K mg "all_exchanges" sAllExchanges ["lanes"]
  roadOf : Has K mg "road_of" sRoadOf ["row", "out"]
  checkOut : Has K mg "check_out" sCheckOut ["out"]
  fewestOf : Has K mg "fewest_of" sFewestOf ["row", "out"]
  fewest : Has K mg "fewest" sFewest ["row", "out"]
  hand : Has K mg "_law_hand" sHand ["_law_script"]
  draw : Has K mg "_law_draw" sDraw ["_law_hand_here", "_law_many"]
  someF : Has K mg "_law_some" sSome ["_law_hand_here", "_law_things"]
  isF : Has K mg "_law_is" sIs ["_law_told", "_law_due"]
  row : Has K mg "_law_row" sRow ["_law_hand_here", "_law_letters", "_law_most"]
  thinned : Has K mg "_law_thinned" sThinned ["_law_hand_here", "_law_row_here", "_law_most"]
  word : Has K mg "_law_word" sWord ["_law_row_here"]
  thins : Has K mg "_law_thins" sThins ["_law_row_here", "_law_out"]
  rows : Has K mg "_law_rows" sRows ["_law_letters", "_law_lanes"]
  lExchanged : Has K mg "_law_exchanged" sLExchanged ["_law_row_here", "_law_a", "_law_b", "_law_c"]
  lExchanges : Has K mg "_law_exchanges" sLExchanges ["_law_lanes"]
  levels : Has K mg "_law_levels" sLevels ["_law_row_here", "_law_lanes"]
  made : Has K mg "_law_made" sMade ["_law_hand_here", "_law_row_here"]
  number : Has K mg "_law_number" sNumber ["_law_row_here", "_law_out"]
  wide : Has K mg "_law_wide_right" sWide ["_law_hand_here"]
  mLet : ∃ t, mg "MOST_LETTERS" = some (.int 4 t)
  mLan : ∃ t, mg "MOST_LANES" = some (.int 1000 t)
  mRoa : ∃ t, mg "MOST_ROAD" = some (.int 9 t)
  b_isinstance : mg "isinstance" = none
  b_int : mg "int" = none
  b_bool : mg "bool" = none
  b_tuple : mg "tuple" = none
  b_list : mg "list" = none
  b_dict : mg "dict" = none
  b_set : mg "set" = none
  b_len : mg "len" = none
  b_all : mg "all" = none
  b_any : mg "any" = none
  b_range : mg "range" = none
  b_sorted : mg "sorted" = none
  b_abs : mg "abs" = none
end K17
namespace K17
open PySem PySem.Spec PyProof.Rows L2
/-! ### a op1 b op2 c op3 d op4 e -/
section
variable {X : Cx} {a b c d e : Expr} {ta tb tc td te : TE} {pos : Pos}
/-- go on with the chain if the answer is True -/
def tGo (r : R2) (x y : V) (H : Hp) (Q : VK) (go : Hp → Prop) : Prop := r x y H fun z H3 => ∃ k, z = .bl k ∧ if k = true then go H3 else Q (.bl false) H3
def tChain4 (r1 r2 r3 r4 : R2) (ta tb tc td te : TE) : TE := fun σ H Q => ta σ H fun x H1 => tb σ H1 fun y H2 => tGo r1 x y H2 Q fun H3 =>
  tc σ H3 fun z H4 => tGo r2 y z H4 Q fun H5 => td σ H5 fun u H6 => tGo r3 z u H6 Q fun H7 => te σ H7 fun v H8 => r4 u v H8 Q
theorem pe_chain4 {o1 o2 o3 o4 : CmpOp} {r1 r2 r3 r4 : R2} (h1 : OpR X (compareOp o1) r1) (h2 : OpR X (compareOp o2) r2) (h3 : OpR X (compareOp o3) r3) (h4 : OpR X (compareOp o4) r4)
    (ha : PE X a ta) (hb : PE X b tb) (hc : PE X c tc) (hd : PE X d td) (he : PE X e te)
    (hm : lastMarks [o1, o2, o3, o4] [b, c, d, e] = false := by with_unfolding_all rfl) : PE X (.Compare a [o1, o2, o3, o4] [b, c, d, e] pos) (tChain4 r1 r2 r3 r4 ta tb tc td te) := by
  refine ⟨fun pins s σ H Q I h => ?_⟩
  refine Compare_chain (thn (ha.run pins s σ H _ I h) fun v s1 ⟨x, H1, I1, rx, q1⟩ => chain_link (thn (hb.run pins s1 σ H1 _ I1 q1) fun u s2 ⟨y, H2, I2, ry, q2⟩ =>
    thn (h1 pins s2 σ H2 x y v u _ I2 rx ry q2) fun d1 s3 ⟨z1, H3, I3, rz1, k, ek, q3⟩ => ?_)) hm
  subst ek
  cases rz1
  refine wpAny_truthy_bool ?_
  cases k with
  | false => exact ite_ff ⟨.bl false, H3, I3, rfl, q3⟩
  | true =>
    refine ite_tt ?_
    refine chain_link (thn (hc.run pins s3 σ H3 _ I3 q3) fun w1 s4 ⟨z, H4, I4, rz, q4⟩ => thn (h2 pins s4 σ H4 y z u w1 _ I4 ry rz q4) fun d2 s5 ⟨z2, H5, I5, rz2, k, ek, q5⟩ => ?_)
    subst ek
    cases rz2
    refine wpAny_truthy_bool ?_
    cases k with
    | false => exact ite_ff ⟨.bl false, H5, I5, rfl, q5⟩
    | true =>
      refine ite_tt ?_
      refine chain_link (thn (hd.run pins s5 σ H5 _ I5 q5) fun w2 s6 ⟨t, H6, I6, rt, q6⟩ => thn (h3 pins s6 σ H6 z t w1 w2 _ I6 rz rt q6) fun d3 s7 ⟨z3, H7, I7, rz3, k, ek, q7⟩ => ?_)
      subst ek
      cases rz3
      refine wpAny_truthy_bool ?_
      cases k with
      | false => exact ite_ff ⟨.bl false, H7, I7, rfl, q7⟩
      | true => exact ite_tt (chain_last (thn (he.run pins s7 σ H7 _ I7 q7) fun w3 s8 ⟨t4, H8, I8, r8, q8⟩ => h4 pins s8 σ H8 t t4 w2 w3 Q I8 rt r8 q8))
end
/-! ### {k: v}, k a tuple -/
section
variable {X : Cx} {k v : Expr} {tk tv : TE} {pos : Pos}
def tDispT (tk tv : TE) : TE := fun σ H Q => ∀ p, H p = none → tk σ (upd H p (.dT [])) fun x H1 => tv σ H1 fun y H2 =>
  H2 p = some (.dT []) ∧ ∃ (b : Addr) (ks : List Key), x = .ref b ∧ H2 b = some (.tup (ks.map kV)) ∧ Q (.ref p) (upd H2 p (.dT [(ks, y)]))
theorem pe_dispT (hu : X.A.units + 1 < cLine) (hk : PE X k tk) (hv : PE X v tv) : PE X (.Dict [some k] [v] pos) (tDispT tk tv) := by
  refine ⟨fun pins s σ H Q I q => ?_⟩
  have hn := I.hok.fresh (Nat.le_refl s.heap.objs.size)
  have I1 := I.laid (a := s.heap.objs.size) (o := .dT []) (h' := s.heap.push { cls := .type "dict", data := .dict #[] }) (t' := s.toks) (fun _ _ q => Heap.get?_push_of_some _ q) (Nat.le_refl _) (dt_empty s.heap I.big)
  rw [arm_eval_Dict, zip_pairTrees [some k] [v] X.env pos rfl rfl, dictDisplay_pairs (pairTrees [some k] [v] X.env pos) (by simp [pairTrees]) (by simp [pairTrees])]
  refine wpAny_bind (wpAny_standAt (wpAny_bind (wpAny_subDictH (knd := tupleKind (mixKind X.prog X.w)) (Nat.lt_of_succ_lt hu) (by simp [pairTrees]) ?_)))
  refine pairTrees_cons_walk (thn (hk.run pins _ σ _ _ I1 (q _ hn)) fun u s1 ⟨x, H1, J1, rx, q1⟩ => thn (hv.run pins s1 σ H1 _ J1 q1) fun w2 s2 ⟨y, H2, J2, ry, e2, b, ks, ex, eb, q2⟩ => pairTrees_nil_walk ?_)
  subst ex
  cases rx
  obtain ⟨z, hd, xs0, r0, dd⟩ := dt_of J2.hok e2
  cases r0
  refine ⟨[(ks, b, w2)], ⟨rfl, rfl, key_of J2.hok eb, trivial⟩, dd, fun h' tk dd' hs => wpAny_pure ?_⟩
  obtain ⟨o, es, ep, ho, hc, hdt, hes, his, hnd⟩ := dd'
  refine ⟨.ref s.heap.objs.size, upd H2 s.heap.objs.size (.dT [(ks, y)]), ?_, rfl, q2⟩
  refine d_write (t' := tk) J2 (by rw [e2]; exact True.intro) hs ⟨o, ho⟩ ⟨by show 1 ≤ sizeLine; decide, hd, [(ks, b, w2)], ?_, o, es, ep, ho, hc, hdt, hes, hnd⟩
  refine .cons ⟨rfl, ?_, ry⟩ .nil
  rw [upd_ne (ne_of eb e2 (fun z => nomatch z))]
  exact eb
end
/-! ### dict(pairs), the keys tuples -/
def mergeT (kvs more : List (List Key × V)) : List (List Key × V) := more.foldl (fun acc kv => putK acc kv.1 kv.2) kvs
theorem length_mergeT : ∀ (more kvs : List (List Key × V)), (mergeT kvs more).length ≤ kvs.length + more.length
  | [], kvs => by show kvs.length ≤ kvs.length + 0; omega
  | p :: r, kvs => by
    have h1 := length_mergeT r (putK kvs p.1 p.2)
    have h2 := length_putK kvs p.1 p.2
    show (mergeT (putK kvs p.1 p.2) r).length ≤ _
    rw [List.length_cons]; omega
theorem KT.merge {H : Hp} : ∀ {more : List (List Key × V)} {ps : List (List Key × Addr × Value)} {kvs : List (List Key × V)} {xs : List (List Key × Addr × Value)}, KT H more ps → KT H kvs xs → KT H (mergeT kvs more) (storedAllH xs ps) := by
  intro more ps kvs xs r
  unfold KT at r
  induction r generalizing kvs xs with
  | nil => intro q; exact q
  | @cons p q ps' qs h t ih =>
    intro r0
    obtain ⟨h1, h2, h3⟩ := h
    have e : KT H (putK kvs p.1 p.2) (storedH xs q.1 q.2.1 q.2.2) := by
      have := KT.put r0 p.1 h2 h3
      rw [← h1]; exact this
    exact ih e
def rDictT (K : PySem.W.Frag) : List V → Hp → VK → Prop := fun xs H Q => ∃ (a : Addr) (ps : List Addr) (kvs : List (List Key × V)), xs = [.ref a] ∧ SqL K H a (ps.map V.ref) ∧
  Paired (fun p kv => ∃ b, H p = some (.tup [.ref b, kv.2]) ∧ H b = some (.tup (kv.1.map kV))) ps kvs ∧ ∀ p, H p = none → Q (.ref p) (upd H p (.dT (mergeT [] kvs)))
section
variable {X : Cx}
theorem pairsT_of {pins : List (Addr × Obj)} {σ : L2.St} {H : Hp} {s : Shared} (I : L2.Inv X pins σ H s) : ∀ {ps : List Addr} {kvs : List (List Key × V)}, Paired (fun p kv => ∃ b, H p = some (.tup [.ref b, kv.2]) ∧ H b = some (.tup (kv.1.map kV))) ps kvs →
    ∃ xs : List (List Key × Addr × Value), KT H kvs xs ∧ xs.length = ps.length ∧ ∀ (j : Nat) k b v, xs[j]? = some (k, b, v) → ∃ p, ps[j]? = some p ∧ PairAt s.heap p (.ref b) v
  | _, _, .nil => ⟨[], .nil, rfl, fun j k b v e => by simp at e⟩
  | _, _, @Paired.cons _ _ _ p kv ps kvs ⟨b, h1, h2⟩ t => by
    obtain ⟨xs, r, l, f⟩ := pairsT_of I t
    obtain ⟨_, its, rv, o, ho, hc, n, hd⟩ := (show ObjOk X.prog X.w H s.heap p (.tup [.ref b, kv.2]) from I.hok p _ h1)
    obtain ⟨u1, u2, rfl, r1, r2⟩ := vals2 rv
    cases r1
    refine ⟨(kv.1, b, u2) :: xs, .cons ⟨rfl, h2, r2⟩ r, by simp [l], fun j k b' v e => ?_⟩
    cases j with
    | zero =>
      simp only [List.getElem?_cons_zero, Option.some.injEq, Prod.mk.injEq] at e
      obtain ⟨_, rfl, rfl⟩ := e
      exact ⟨p, rfl, .inl ⟨o, ho, hc, n, hd⟩⟩
    | succ j => simpa using f j k b' v (by simpa using e)
theorem call_dictT (hcalm : X.calm = true) (hu : X.A.units + 2 < cLine) : CallR X (.type "dict") (rDictT X.K) := by
  intro pins s σ H xs us Q I r q
  obtain ⟨a, ps, kvs, ex, hq, hp, q⟩ := q
  subst ex
  obtain ⟨u, eu, rx⟩ := vals1 r
  subst eu
  cases rx
  obtain ⟨its, rv, pl, hz⟩ := I.list hq
  have ei := refs_at rv
  subst ei
  rw [List.length_map] at hz
  obtain ⟨prs, rel, hl, hpr⟩ := pairsT_of I hp
  have hts : ∀ j, j < prs.length → ∃ p, ps[j]? = some p := fun j hj => ⟨ps[j]'(by omega), List.getElem?_eq_getElem _⟩
  refine call_dict_pairsH (knd := tupleKind (mixKind X.prog X.w)) (ps := prs) (PairArg.list a (ps.map Value.ref).toArray (fun j => ps.getD j 0) (prs.map fun x => (Value.ref x.2.1, x.2.2))) (I.ok.hd hcalm) (by show X.A.units + 1 + 1 < cLine; omega) ⟨?_, ?_, ?_⟩ ⟨by simp, ?_⟩ ?_ (by rw [List.length_map, hl]; exact hz) fun h' tk dd' hk => ?_
  · obtain ⟨o, n, ho, hc, hd, hdat⟩ := pl
    exact ⟨o, n, ho, hc, hd, hdat⟩
  · simp [hl]
  · intro j k v e
    rw [List.getElem?_map] at e
    cases q1 : prs[j]? with
    | none => rw [q1] at e; cases e
    | some x =>
      rw [q1] at e
      cases e
      obtain ⟨p, hp1, hp2⟩ := hpr j x.1 x.2.1 x.2.2 q1
      refine ⟨?_, ?_⟩
      · simp [hp1, List.getD]
      · simpa [hp1, List.getD] using hp2
  · intro i key v e
    replace e : (prs.map fun x => (Value.ref x.2.1, x.2.2))[i]? = some (key, v) := e
    rw [List.getElem?_map] at e
    cases q1 : prs[i]? with
    | none => rw [q1] at e; cases e
    | some x =>
      rw [q1] at e
      cases e
      exact ⟨x.1, x.2.1, rfl, rfl⟩
  · intro h' hk x hx
    have all : ∀ {l : List (List Key × V)} {m : List (List Key × Addr × Value)}, KT H l m → ∀ x ∈ m, (tupleKind (mixKind X.prog X.w)).is s.heap x.1 x.2.1 := by
      intro l m q
      induction q with
      | nil => intro x hx; exact nomatch hx
      | @cons p q ps qs hq t ih =>
        intro x hx
        rcases List.mem_cons.mp hx with e | hx
        · subst e
          exact key_of I.hok (by rw [← hq.1]; exact hq.2.1)
        · exact ih x hx
    obtain ⟨o, its, n, h1, h2, h3, h4⟩ := all rel x hx
    exact ⟨o, its, n, hk _ _ (Nat.ne_of_lt (Heap.lt_size h1)) (fun z => nomatch z) h1, h2, h3, h4⟩
  · obtain ⟨o, es, ep, ho, hc, hdt, hes, his, hnd⟩ := dd'
    have hm : (s.heap.objs.size == sysModules) = false := beq_eq_false_iff_ne.mpr (Nat.ne_of_gt I.big)
    have hlen : (mergeT [] kvs).length ≤ sizeLine := by
      refine Nat.le_trans (length_mergeT kvs []) ?_
      rw [List.length_nil, Nat.zero_add, Paired.length rel, hl]
      exact hz
    have hf : H s.heap.objs.size = none := I.hok.fresh (Nat.le_refl _)
    refine ⟨.ref s.heap.objs.size, upd H s.heap.objs.size (.dT (mergeT [] kvs)), I.laid (t' := tk) (fun b u e => hk b u (fun z => nomatch z) e) (Nat.le_refl _) ?_, rfl, q _ hf⟩
    refine ⟨hlen, hm, storedAllH [] prs, (KT.merge rel .nil).keeps fun b ys e => ?_, o, es, ep, ho, hc, hdt, hes, hnd⟩
    rw [upd_ne (ne_of_none e hf)]
    exact e
/-! ### set(t), t a tuple of ints -/
def rSetI (K : PySem.W.Frag) (w : World) : List V → Hp → VK → Prop := fun xs H Q => ∃ (p : Addr) (ns : List Int), xs = [.ref p] ∧ SqT K H p (ns.map V.int) ∧ ns.length ≤ 1000 ∧
  ∀ a c, H a = none → c ≤ ns.length → Q (.ref a) (upd H a (SetO w a (fun j => decide (j ∈ ns)) c))
theorem call_setI (hc : X.calm = true) : CallR X (.type "set") (rSetI X.K X.w) := by
  intro pins s σ H xs us Q I r q
  obtain ⟨p, ns, rfl, hq, hl, q⟩ := q
  obtain ⟨u, eu, rx⟩ := vals1 r
  subst eu
  cases rx
  obtain ⟨its, rv, pt, hz⟩ := I.tuple hq
  have hi : IntsAre its.toArray.toList ns := ints_of_vals rv
  refine call_set_tupI ns (I.ok.hd hc) (show s.heap.IsTuple p its.toArray from pt) hi (by unfold scanBound; omega) fun h' tk c R1 hcn k => ?_
  exact ⟨.ref _, upd H s.heap.objs.size (SetO X.w s.heap.objs.size (fun j => decide (j ∈ ns)) c), I.laid (t' := tk) k (Nat.le_refl _) (setO_new R1), rfl, q _ c (I.hok.fresh (Nat.le_refl _)) hcn⟩
end
end K17
namespace K17
/-! ### thinnings -/
/-- the greedy test: whether a row out can be read off a row, letters doubled in their places -/
def thinB : List Int → List Int → Bool
  | _, [] => true
  | [], _ :: _ => false
  | x :: r, y :: o => if x = y then thinB (x :: r) o else thinB r (y :: o)
termination_by r o => r.length + o.length
theorem thinB_nil (r : List Int) : thinB r [] = true := by cases r <;> simp [thinB]
theorem thinB_nc (y : Int) (o : List Int) : thinB [] (y :: o) = false := by simp [thinB]
theorem thinB_eq (x : Int) (r o : List Int) : thinB (x :: r) (x :: o) = thinB (x :: r) o := by
  rw [thinB]; simp
theorem thinB_ne {x y : Int} (h : x ≠ y) (r o : List Int) : thinB (x :: r) (y :: o) = thinB r (y :: o) := by
  rw [thinB]; simp [h]
inductive Thin : List Int → List Int → Prop
  | nil (r : List Int) : Thin r []
  | take {x : Int} {r o : List Int} : Thin (x :: r) o → Thin (x :: r) (x :: o)
  | skip {x : Int} {r o : List Int} : Thin r o → Thin (x :: r) o
theorem Thin.tail {r : List Int} {y : Int} {o : List Int} (h : Thin r (y :: o)) : Thin r o := by
  generalize e : y :: o = w at h
  induction h with
  | nil r => cases e
  | take h _ => cases e; exact h
  | skip _ ih => exact .skip (ih e)
theorem thin_of_B : ∀ (n : Nat) (r o : List Int), r.length + o.length ≤ n → thinB r o = true → Thin r o := by
  intro n
  induction n with
  | zero =>
    intro r o hn h
    cases o with
    | nil => exact .nil r
    | cons y o => simp at hn
  | succ n ih =>
    intro r o hn h
    cases o with
    | nil => exact .nil r
    | cons y o =>
      cases r with
      | nil => rw [thinB_nc] at h; cases h
      | cons x r =>
        simp only [List.length_cons] at hn
        by_cases e : x = y
        · subst e
          rw [thinB_eq] at h
          exact .take (ih (x :: r) o (by simp only [List.length_cons]; omega) h)
        · rw [thinB_ne e] at h
          exact .skip (ih r (y :: o) (by simp only [List.length_cons]; omega) h)
theorem b_of_thin : ∀ (n : Nat) (r o : List Int), r.length + o.length ≤ n → Thin r o → thinB r o = true := by
  intro n
  induction n with
  | zero =>
    intro r o hn h
    cases o with
    | nil => exact thinB_nil r
    | cons y o => simp at hn
  | succ n ih =>
    intro r o hn h
    cases o with
    | nil => exact thinB_nil r
    | cons y o =>
      cases r with
      | nil => cases h
      | cons x r =>
        simp only [List.length_cons] at hn
        by_cases e : x = y
        · subst e
          rw [thinB_eq]
          exact ih (x :: r) o (by simp only [List.length_cons]; omega) h.tail
        · rw [thinB_ne e]
          refine ih r (y :: o) (by simp only [List.length_cons]; omega) ?_
          cases h with
          | take h => exact absurd rfl e
          | skip h => exact h
theorem thin_iff {r o : List Int} : thinB r o = true ↔ Thin r o := ⟨thin_of_B _ r o (Nat.le_refl _), b_of_thin _ r o (Nat.le_refl _)⟩
theorem Thin.undrop {o : List Int} : ∀ (k : Nat) {r : List Int}, Thin (r.drop k) o → Thin r o
  | 0, _, h => h
  | k + 1, [], h => by simpa using h
  | k + 1, x :: r, h => .skip (Thin.undrop k (by simpa using h))
/-- indexes that never fall pick a thinning -/
theorem thin_of_way {r : List Int} : ∀ {ps : List Nat} (p : Nat), (∀ q ∈ ps, p ≤ q ∧ q < r.length) → ps.Pairwise (· ≤ ·) → Thin (r.drop p) (ps.map fun q => r.getD q 0)
  | [], p, _, _ => .nil _
  | q :: ps, p, h, hs => by
    obtain ⟨h1, h2⟩ := h q (List.mem_cons_self)
    have hd : r.drop q = r.getD q 0 :: r.drop (q + 1) := by
      rw [List.drop_eq_getElem_cons h2]
      congr 1
      simp [List.getD, h2]
    have ih := thin_of_way (r := r) (ps := ps) q (fun x hx => ⟨(List.pairwise_cons.mp hs).1 x hx, (h x (List.mem_cons_of_mem _ hx)).2⟩) (List.pairwise_cons.mp hs).2
    rw [hd] at ih
    have t : Thin (r.drop q) (r.getD q 0 :: ps.map fun q => r.getD q 0) := by rw [hd]; exact .take ih
    have e : r.drop q = (r.drop p).drop (q - p) := by rw [List.drop_drop]; congr 1; omega
    rw [e] at t
    exact t.undrop (q - p)
theorem Thin.mem {r o : List Int} (h : Thin r o) : ∀ l ∈ o, l ∈ r := by
  induction h with
  | nil r => intro l hl; cases hl
  | take _ ih =>
    intro l hl
    rcases List.mem_cons.mp hl with e | hl
    · subst e; exact List.mem_cons_self
    · exact ih l hl
  | skip _ ih => intro l hl; exact List.mem_cons_of_mem _ (ih l hl)
theorem thin_rep {x : Int} {r o : List Int} (h : Thin (x :: r) o) : ∀ {p : List Int}, (∀ l ∈ p, l = x) → Thin (x :: r) (p ++ o)
  | [], _ => h
  | y :: p, hp => by
    have e := hp y List.mem_cons_self
    subst e
    exact .take (thin_rep h fun l hl => hp l (List.mem_cons_of_mem _ hl))
/-- some order of the letters of a row out is a thinning -/
theorem thin_perm : ∀ {r o : List Int}, (∀ l ∈ o, l ∈ r) → ∃ t, t.Perm o ∧ Thin r t
  | [], o, h => by
    cases o with
    | nil => exact ⟨[], .refl _, .nil _⟩
    | cons y o => exact absurd (h y List.mem_cons_self) (by simp)
  | x :: r, o, h => by
    obtain ⟨t, ht, hT⟩ := thin_perm (r := r) (o := o.filter fun l => !(l == x)) fun l hl => by
      obtain ⟨h1, h2⟩ := List.mem_filter.mp hl
      rcases List.mem_cons.mp (h l h1) with e | e
      · subst e; simp at h2
      · exact e
    refine ⟨o.filter (fun l => l == x) ++ t, ?_, thin_rep (.skip hT) fun l hl => by simpa using (List.mem_filter.mp hl).2⟩
    exact (List.Perm.append_left _ ht).trans (List.filter_append_perm (fun l => l == x) o)
/-! ### the way of the program: the next place from a place on -/
theorem thin_next {r : List Int} {p q : Nat} {l : Int} {o : List Int} (hq : r[q]? = some l) (hpq : p ≤ q) (hn : ∀ j, p ≤ j → j < q → r[j]? ≠ some l) : thinB (r.drop p) (l :: o) = thinB (r.drop q) o := by
  obtain ⟨k, rfl⟩ : ∃ k, q = p + k := ⟨q - p, by omega⟩
  clear hpq
  induction k generalizing p with
  | zero =>
    obtain ⟨h1, h2⟩ := List.getElem?_eq_some_iff.mp hq
    simp only [Nat.add_zero] at hq h1 h2 ⊢
    rw [List.drop_eq_getElem_cons h1, h2, thinB_eq]
  | succ k ih =>
    obtain ⟨h1, h2⟩ := List.getElem?_eq_some_iff.mp hq
    have hp : p < r.length := by omega
    have e1 : r[p] ≠ l := fun e => hn p (Nat.le_refl _) (by omega) (by rw [List.getElem?_eq_getElem hp, e])
    rw [List.drop_eq_getElem_cons hp, thinB_ne e1]
    have e : p + (k + 1) = (p + 1) + k := by omega
    rw [e]
    exact ih (p := p + 1) (by rw [← e]; exact hq) (fun j h3 h4 => hn j (by omega) (by omega))
theorem thin_nonext {r : List Int} {p : Nat} {l : Int} {o : List Int} (hn : ∀ j, p ≤ j → r[j]? ≠ some l) : thinB (r.drop p) (l :: o) = false := by
  cases h : thinB (r.drop p) (l :: o) with
  | false => rfl
  | true =>
    have t := (thin_iff.mp h).mem l List.mem_cons_self
    obtain ⟨i, hi⟩ := List.getElem?_of_mem t
    rw [List.getElem?_drop] at hi
    exact absurd hi (hn (p + i) (by omega))
/-! ### the law's own test: the word, taken letter by letter -/
def wstep (acc : List Int) (l : Int) : List Int := if acc.getLast? = some l then acc else acc ++ [l]
def wordL (o : List Int) : List Int := o.foldl wstep (o.take 1)
def pstep (left : List Int) (l : Int) : List Int := match left with
  | [] => []
  | y :: t => if l = y then t else y :: t
def thinsL (r o : List Int) : Bool := (r.foldl pstep (wordL o)).isEmpty
theorem thinB_double (x : Int) : ∀ (n : Nat) (r a b : List Int), r.length + a.length ≤ n → thinB r (a ++ x :: x :: b) = thinB r (a ++ x :: b) := by
  intro n
  induction n with
  | zero =>
    intro r a b hn
    cases r with
    | cons y r => simp at hn
    | nil =>
      cases a with
      | nil => simp [thinB_nc]
      | cons z a => simp at hn
  | succ n ih =>
    intro r a b hn
    cases r with
    | nil =>
      cases a with
      | nil => simp [thinB_nc]
      | cons z a => simp [thinB_nc]
    | cons y r =>
      simp only [List.length_cons] at hn
      cases a with
      | nil =>
        by_cases e : y = x
        · subst e
          simp only [List.nil_append]
          rw [thinB_eq]
        · simp only [List.nil_append]
          rw [thinB_ne e, thinB_ne e]
          exact ih r [] b (by simp only [List.length_nil]; omega)
      | cons z a =>
        simp only [List.length_cons] at hn
        by_cases e : y = z
        · subst e
          simp only [List.cons_append]
          rw [thinB_eq, thinB_eq]
          exact ih (y :: r) a b (by simp only [List.length_cons]; omega)
        · simp only [List.cons_append]
          rw [thinB_ne e, thinB_ne e]
          exact ih r (z :: a) b (by simp only [List.length_cons]; omega)
theorem thin_wstep (r acc : List Int) (l : Int) (rest : List Int) : thinB r (wstep acc l ++ rest) = thinB r (acc ++ l :: rest) := by
  unfold wstep
  split
  · rename_i h
    obtain ⟨a, rfl⟩ := List.getLast?_eq_some_iff.mp h
    simp only [List.append_assoc, List.cons_append, List.nil_append]
    exact (thinB_double l _ r a rest (Nat.le_refl _)).symm
  · simp
theorem thin_wfold (r : List Int) : ∀ (o acc : List Int), thinB r (o.foldl wstep acc) = thinB r (acc ++ o)
  | [], acc => by simp
  | l :: o, acc => by
    rw [List.foldl_cons, thin_wfold r o, thin_wstep]
theorem thin_word (r o : List Int) : thinB r (wordL o) = thinB r o := by
  unfold wordL
  rw [thin_wfold]
  cases o with
  | nil => rfl
  | cons x o =>
    show thinB r ([x] ++ x :: o) = _
    exact thinB_double x _ r [] o (Nat.le_refl _)
/-- no two neighbours alike -/
def Apart : List Int → Prop
  | [] => True
  | [_] => True
  | x :: y :: r => x ≠ y ∧ Apart (y :: r)
theorem Apart.tail {x : Int} {r : List Int} (h : Apart (x :: r)) : Apart r := by
  cases r with
  | nil => trivial
  | cons y r => exact h.2
theorem Apart.snoc {l : Int} : ∀ {acc : List Int}, Apart acc → acc.getLast? ≠ some l → Apart (acc ++ [l])
  | [], _, _ => trivial
  | [x], _, h => ⟨fun e => h (by simp [e]), trivial⟩
  | x :: y :: r, ha, h => ⟨ha.1, Apart.snoc (acc := y :: r) ha.2 (by rw [List.getLast?_cons_cons] at h; exact h)⟩
theorem apart_wfold : ∀ (o acc : List Int), Apart acc → Apart (o.foldl wstep acc)
  | [], _, h => h
  | l :: o, acc, h => by
    rw [List.foldl_cons]
    refine apart_wfold o _ ?_
    unfold wstep
    split
    · exact h
    · rename_i e; exact h.snoc e
theorem apart_word (o : List Int) : Apart (wordL o) := by
  refine apart_wfold o _ ?_
  cases o <;> trivial
theorem pop_nil : ∀ r : List Int, r.foldl pstep [] = []
  | [] => rfl
  | x :: r => by rw [List.foldl_cons]; exact pop_nil r
theorem pop_thin : ∀ (r w : List Int), Apart w → (r.foldl pstep w).isEmpty = thinB r w
  | [], w, _ => by cases w <;> simp [thinB_nil, thinB_nc]
  | x :: r, [], _ => by rw [pop_nil, thinB_nil]; rfl
  | x :: r, y :: w, h => by
    rw [List.foldl_cons]
    by_cases e : x = y
    · subst e
      have e1 : pstep (x :: w) x = w := by simp [pstep]
      rw [e1, pop_thin r w h.tail, thinB_eq]
      cases w with
      | nil => rw [thinB_nil, thinB_nil]
      | cons z w => rw [thinB_ne h.1]
    · have e1 : pstep (y :: w) x = y :: w := by simp [pstep, e]
      rw [e1, pop_thin r (y :: w) h, thinB_ne e]
theorem thinsL_eq (r o : List Int) : thinsL r o = thinB r o := by
  unfold thinsL
  rw [pop_thin r _ (apart_word o), thin_word]
/-! ### exchanges -/
def ex (u : List Int) (a b c : Nat) : List Int := ((u.take a ++ (u.drop b).take (c - b)) ++ (u.drop a).take (b - a)) ++ u.drop c
/-- one exchange: two neighbouring stretches change places -/
def Stp (u v : List Int) : Prop := ∃ A B C D : List Int, B ≠ [] ∧ C ≠ [] ∧ u = A ++ (B ++ (C ++ D)) ∧ v = A ++ (C ++ (B ++ D))
theorem Stp.symm {u v : List Int} (h : Stp u v) : Stp v u := by
  obtain ⟨A, B, C, D, h1, h2, h3, h4⟩ := h
  exact ⟨A, C, B, D, h2, h1, h4, h3⟩
theorem Stp.cons {u v : List Int} (x : Int) (h : Stp u v) : Stp (x :: u) (x :: v) := by
  obtain ⟨A, B, C, D, h1, h2, h3, h4⟩ := h
  exact ⟨x :: A, B, C, D, h1, h2, by rw [h3]; rfl, by rw [h4]; rfl⟩
theorem Stp.perm {u v : List Int} (h : Stp u v) : v.Perm u := by
  obtain ⟨A, B, C, D, h1, h2, h3, h4⟩ := h
  rw [h3, h4]
  refine List.Perm.append_left A ?_
  rw [← List.append_assoc, ← List.append_assoc]
  exact List.Perm.append_right D List.perm_append_comm
theorem stp_ex {u : List Int} {a b c : Nat} (h1 : a < b) (h2 : b < c) (h3 : c ≤ u.length) : Stp u (ex u a b c) := by
  refine ⟨u.take a, (u.drop a).take (b - a), (u.drop b).take (c - b), u.drop c, ?_, ?_, ?_, ?_⟩
  · intro e
    have := congrArg List.length e
    simp at this
    omega
  · intro e
    have := congrArg List.length e
    simp at this
    omega
  · have e1 : u.drop b = (u.drop b).take (c - b) ++ u.drop c := by
      have := (List.take_append_drop (c - b) (u.drop b)).symm
      rw [List.drop_drop] at this
      rw [show b + (c - b) = c by omega] at this
      exact this
    have e2 : u.drop a = (u.drop a).take (b - a) ++ u.drop b := by
      have := (List.take_append_drop (b - a) (u.drop a)).symm
      rw [List.drop_drop] at this
      rw [show a + (b - a) = b by omega] at this
      exact this
    rw [← e1, ← e2, List.take_append_drop]
  · unfold ex
    simp only [List.append_assoc]
theorem ex_stp {u v : List Int} (h : Stp u v) : ∃ a b c, a < b ∧ b < c ∧ c ≤ u.length ∧ v = ex u a b c := by
  obtain ⟨A, B, C, D, h1, h2, rfl, rfl⟩ := h
  have lB : 0 < B.length := List.length_pos_iff.mpr h1
  have lC : 0 < C.length := List.length_pos_iff.mpr h2
  refine ⟨A.length, A.length + B.length, A.length + B.length + C.length, by omega, by omega, by simp; omega, ?_⟩
  have d1 : (A ++ (B ++ (C ++ D))).drop A.length = B ++ (C ++ D) := List.drop_left
  have d2 : (A ++ (B ++ (C ++ D))).drop (A.length + B.length) = C ++ D := by
    rw [← List.drop_drop, d1, List.drop_left]
  have d3 : (A ++ (B ++ (C ++ D))).drop (A.length + B.length + C.length) = D := by
    rw [← List.drop_drop, d2, List.drop_left]
  unfold ex
  rw [d1, d2, d3, List.take_left]
  rw [show A.length + B.length + C.length - (A.length + B.length) = C.length by omega, show A.length + B.length - A.length = B.length by omega]
  rw [List.take_left, List.take_left]
  simp only [List.append_assoc]
theorem ex_length {u : List Int} {a b c : Nat} (h1 : a < b) (h2 : b < c) (h3 : c ≤ u.length) : (ex u a b c).length = u.length := (stp_ex h1 h2 h3).perm.length_eq
/-- so many exchanges lead from one row to another -/
def Rch : Nat → List Int → List Int → Prop
  | 0, u, v => u = v
  | k + 1, u, v => ∃ w, Rch k u w ∧ Stp w v
theorem Rch.head {k : Nat} {u v w : List Int} (h : Stp u w) (h2 : Rch k w v) : Rch (k + 1) u v := by
  induction k generalizing v with
  | zero => cases h2; exact ⟨u, rfl, h⟩
  | succ k ih =>
    obtain ⟨z, h3, h4⟩ := h2
    exact ⟨z, ih h3, h4⟩
theorem Rch.symm : ∀ {k : Nat} {u v : List Int}, Rch k u v → Rch k v u
  | 0, _, _, h => Eq.symm h
  | _ + 1, _, _, ⟨_, h1, h2⟩ => Rch.head h2.symm h1.symm
theorem Rch.perm : ∀ {k : Nat} {u v : List Int}, Rch k u v → v.Perm u
  | 0, _, _, h => by cases h; exact .refl _
  | _ + 1, _, _, ⟨_, h1, h2⟩ => h2.perm.trans h1.perm
theorem Rch.cons (x : Int) : ∀ {k : Nat} {u v : List Int}, Rch k u v → Rch k (x :: u) (x :: v)
  | 0, _, _, h => by cases h; rfl
  | _ + 1, _, _, ⟨w, h1, h2⟩ => ⟨x :: w, h1.cons x, h2.cons x⟩
theorem Rch.trans {j : Nat} {u v : List Int} (h : Rch j u v) : ∀ {k : Nat} {w : List Int}, Rch k v w → Rch (j + k) u w
  | 0, _, h2 => by cases h2; exact h
  | _ + 1, _, ⟨z, h3, h4⟩ => ⟨z, h.trans h3, h4⟩
theorem rch_sort : ∀ {t u : List Int}, u.Perm t → ∃ k, k ≤ u.length ∧ Rch k u t
  | [], u, h => ⟨0, Nat.zero_le _, h.eq_nil⟩
  | x :: t, u, h => by
    have hx : x ∈ u := h.mem_iff.mpr List.mem_cons_self
    obtain ⟨p, q, rfl⟩ := List.append_of_mem hx
    have h2 : (p ++ q).Perm t := (List.perm_cons x).mp (List.perm_middle.symm.trans h)
    obtain ⟨k, hk, hr⟩ := rch_sort h2
    cases p with
    | nil => exact ⟨k, by simp only [List.nil_append, List.length_cons] at hk ⊢; omega, hr.cons x⟩
    | cons y p =>
      refine ⟨k + 1, by simp only [List.length_append, List.length_cons] at hk ⊢; omega, Rch.head ?_ (hr.cons x)⟩
      exact ⟨[], y :: p, [x], q, by simp, by simp, by simp, by simp⟩
/-! ### the least number of exchanges -/
def IsD (row out : List Int) (d : Nat) : Prop := (∃ t, Rch d out t ∧ thinB row t = true) ∧ ∀ k, k < d → ∀ t, Rch k out t → thinB row t = false
theorem IsD.uniq {row out : List Int} {d e : Nat} (h : IsD row out d) (h2 : IsD row out e) : d = e := by
  obtain ⟨⟨t, h3, h4⟩, h5⟩ := h
  obtain ⟨⟨u, h6, h7⟩, h8⟩ := h2
  rcases Nat.lt_trichotomy d e with l | l | l
  · rw [h8 d l t h3] at h4; cases h4
  · exact l
  · rw [h5 e l u h6] at h7; cases h7
theorem IsD.le {row out t : List Int} {d k : Nat} (h : IsD row out d) (h2 : Rch k out t) (h3 : thinB row t = true) : d ≤ k := by
  apply Nat.le_of_not_lt
  intro l
  rw [h.2 k l t h2] at h3; cases h3
theorem least_of {p : Nat → Prop} : ∀ n, p n → ∃ m, m ≤ n ∧ p m ∧ ∀ k, k < m → ¬ p k := by
  intro n
  induction n using Nat.strongRecOn with
  | ind n ih =>
    intro h
    by_cases q : ∃ k, k < n ∧ p k
    · obtain ⟨k, h1, h2⟩ := q
      obtain ⟨m, h3, h4⟩ := ih k h1 h2
      exact ⟨m, by omega, h4⟩
    · exact ⟨n, Nat.le_refl _, h, fun k h1 h2 => q ⟨k, h1, h2⟩⟩
theorem isD_of {row out t : List Int} {k : Nat} (h : Rch k out t) (ht : thinB row t = true) : ∃ d, d ≤ k ∧ IsD row out d := by
  obtain ⟨m, h1, h2, h3⟩ := least_of (p := fun k => ∃ t, Rch k out t ∧ thinB row t = true) k ⟨t, h, ht⟩
  refine ⟨m, h1, h2, fun k hk t hr => ?_⟩
  cases e : thinB row t with
  | false => rfl
  | true => exact (h3 k hk ⟨t, hr, e⟩).elim
theorem isD_some {row out : List Int} (h : ∀ l ∈ out, l ∈ row) : ∃ d, d ≤ out.length ∧ IsD row out d := by
  obtain ⟨t, h1, h2⟩ := thin_perm h
  obtain ⟨k, h3, h4⟩ := rch_sort h1.symm
  obtain ⟨d, h5, h6⟩ := isD_of h4 (thin_iff.mpr h2)
  exact ⟨d, by omega, h6⟩
theorem isD_zero {row out : List Int} {d : Nat} (h : IsD row out d) : d = 0 ↔ thinB row out = true := by
  constructor
  · rintro rfl
    obtain ⟨⟨t, h1, h2⟩, _⟩ := h
    cases h1
    exact h2
  · intro e
    have := h.le (k := 0) (t := out) rfl e
    omega
theorem not_thin_of {row out : List Int} {l : Int} (h1 : l ∈ out) (h2 : l ∉ row) : thinB row out = false := by
  cases e : thinB row out with
  | false => rfl
  | true => exact absurd ((thin_iff.mp e).mem l h1) h2
/-! ### how many rows there are -/
def univ (n : Nat) : List (List Int) := match n with
  | 0 => [[]]
  | n + 1 => (univ n).flatMap fun r => [0 :: r, 1 :: r, 2 :: r, 3 :: r]
theorem univ_length : ∀ n, (univ n).length = 4 ^ n
  | 0 => rfl
  | n + 1 => by
    unfold univ
    rw [List.length_flatMap]
    have : ((univ n).map fun r => [0 :: r, 1 :: r, 2 :: r, 3 :: r].length) = List.replicate (univ n).length 4 := by
      rw [List.eq_replicate_iff]
      refine ⟨by simp, fun b hb => ?_⟩
      obtain ⟨r, _, rfl⟩ := List.mem_map.mp hb
      rfl
    rw [this, List.sum_replicate_nat, univ_length n, Nat.pow_succ]
/-- letters from 0 on below 4 -/
def Lets (u : List Int) : Prop := ∀ l ∈ u, 0 ≤ l ∧ l < 4
theorem mem_univ : ∀ {u : List Int}, Lets u → u ∈ univ u.length
  | [], _ => by simp [univ]
  | x :: u, h => by
    show x :: u ∈ (univ u.length).flatMap fun r => [0 :: r, 1 :: r, 2 :: r, 3 :: r]
    refine List.mem_flatMap.mpr ⟨u, mem_univ fun l hl => h l (List.mem_cons_of_mem _ hl), ?_⟩
    obtain ⟨h1, h2⟩ := h x List.mem_cons_self
    have : x = 0 ∨ x = 1 ∨ x = 2 ∨ x = 3 := by omega
    rcases this with rfl | rfl | rfl | rfl <;> simp
theorem nodup_le {α : Type} [DecidableEq α] : ∀ {l m : List α}, l.Nodup → (∀ x ∈ l, x ∈ m) → l.length ≤ m.length
  | [], _, _, _ => Nat.zero_le _
  | x :: l, m, hn, h => by
    have hx := h x List.mem_cons_self
    obtain ⟨n1, n2⟩ := List.nodup_cons.mp hn
    have := nodup_le (l := l) (m := m.erase x) n2 fun y hy => by
      refine (List.mem_erase_of_ne fun e => ?_).mpr (h y (List.mem_cons_of_mem _ hy))
      subst e; exact n1 hy
    rw [List.length_erase_of_mem hx] at this
    have := List.length_pos_of_mem hx
    rw [List.length_cons]; omega
theorem rows_le {n : Nat} {l : List (List Int)} (hn : l.Nodup) (h : ∀ u ∈ l, u.length = n ∧ Lets u) : l.length ≤ 4 ^ n := by
  rw [← univ_length n]
  exact nodup_le hn fun u hu => by
    obtain ⟨h1, h2⟩ := h u hu
    rw [← h1]
    exact mem_univ h2
/-! ### level by level, from some rows on -/
def Dist (S : List Int → Prop) (v : List Int) (k : Nat) : Prop := (∃ s, S s ∧ Rch k s v) ∧ ∀ j, j < k → ∀ s, S s → ¬ Rch j s v
theorem Dist.uniq {S : List Int → Prop} {v : List Int} {d e : Nat} (h : Dist S v d) (h2 : Dist S v e) : d = e := by
  obtain ⟨⟨s, h3, h4⟩, h5⟩ := h
  obtain ⟨⟨u, h6, h7⟩, h8⟩ := h2
  rcases Nat.lt_trichotomy d e with l | l | l
  · exact (h8 d l s h3 h4).elim
  · exact l
  · exact (h5 e l u h6 h7).elim
theorem dist_of {S : List Int → Prop} {s v : List Int} {k : Nat} (h1 : S s) (h2 : Rch k s v) : ∃ d, d ≤ k ∧ Dist S v d := by
  obtain ⟨m, h3, h4, h5⟩ := least_of (p := fun k => ∃ s, S s ∧ Rch k s v) k ⟨s, h1, h2⟩
  exact ⟨m, h3, h4, fun j hj s hs hr => h5 j hj ⟨s, hs, hr⟩⟩
/-- between two levels: all of level t - 1 and below is known, some of level t -/
structure Mid (S : List Int → Prop) (t : Nat) (F : List Int → Option Nat) (edge later : List (List Int)) (P : List Int → Prop) : Prop where
  pos : 0 < t
  snd : ∀ v d, F v = some d → Dist S v d ∧ d ≤ t
  cmp : ∀ v d, Dist S v d → d < t → F v = some d
  edg : ∀ v, v ∈ edge → Dist S v (t - 1)
  all : ∀ v, Dist S v (t - 1) → v ∈ edge
  ltr : ∀ v, v ∈ later ↔ F v = some t
  nd : later.Nodup
  don : ∀ v, P v → F v ≠ none
theorem Mid.more {S : List Int → Prop} {t : Nat} {F : List Int → Option Nat} {edge later : List (List Int)} {P : List Int → Prop} (M : Mid S t F edge later P) {u v : List Int} (hu : u ∈ edge) (hs : Stp u v) (hv : F v = none) :
    Mid S t (fun w => if w = v then some t else F w) edge (later ++ [v]) (fun w => P w ∨ w = v) := by
  have hd : Dist S v t := by
    obtain ⟨⟨s, h1, h2⟩, h3⟩ := M.edg u hu
    have hr : Rch t s v := by
      have : t = t - 1 + 1 := by have := M.pos; omega
      rw [this]
      exact ⟨u, h2, hs⟩
    obtain ⟨d, h4, h5⟩ := dist_of h1 hr
    by_cases e : d = t
    · rw [← e]; exact h5
    · have := M.cmp v d h5 (by omega)
      rw [hv] at this; cases this
  refine ⟨M.pos, fun w d h => ?_, fun w d h l => ?_, M.edg, M.all, fun w => ?_, ?_, fun w h => ?_⟩
  · by_cases e : w = v
    · rw [if_pos e] at h; cases h; subst e; exact ⟨hd, Nat.le_refl _⟩
    · rw [if_neg e] at h; exact M.snd w d h
  · by_cases e : w = v
    · subst e
      have := M.cmp w d h l
      rw [hv] at this; cases this
    · rw [if_neg e]; exact M.cmp w d h l
  · rw [List.mem_append, List.mem_singleton]
    by_cases e : w = v
    · rw [if_pos e]; simp [e]
    · rw [if_neg e]; simp [e, M.ltr w]
  · rw [List.nodup_append]
    refine ⟨M.nd, by simp, fun a ha b hb e => ?_⟩
    rw [List.mem_singleton] at hb
    subst hb e
    rw [(M.ltr a).mp ha] at hv; cases hv
  · by_cases e : w = v
    · rw [if_pos e]; simp
    · rw [if_neg e]
      rcases h with h | h
      · exact M.don w h
      · exact (e h).elim
theorem Mid.same {S : List Int → Prop} {t : Nat} {F : List Int → Option Nat} {edge later : List (List Int)} {P : List Int → Prop} (M : Mid S t F edge later P) {v : List Int} (hv : F v ≠ none) :
    Mid S t F edge later (fun w => P w ∨ w = v) :=
  { M with don := fun w h => h.elim (fun h => M.don w h) (fun h => h ▸ hv) }
theorem Mid.weak {S : List Int → Prop} {t : Nat} {F : List Int → Option Nat} {edge later : List (List Int)} {P P' : List Int → Prop} (M : Mid S t F edge later P) (h : ∀ w, P' w → P w) : Mid S t F edge later P' :=
  { M with don := fun w q => M.don w (h w q) }
/-- all of level t and below is known, edge is level t -/
structure Lvl (S : List Int → Prop) (t : Nat) (F : List Int → Option Nat) (edge : List (List Int)) : Prop where
  snd : ∀ v d, F v = some d → Dist S v d ∧ d ≤ t
  cmp : ∀ v d, Dist S v d → d ≤ t → F v = some d
  edg : ∀ v, v ∈ edge ↔ F v = some t
  nd : edge.Nodup
theorem Lvl.mid {S : List Int → Prop} {t : Nat} {F : List Int → Option Nat} {edge : List (List Int)} (L : Lvl S t F edge) : Mid S (t + 1) F edge [] (fun _ => False) := by
  refine ⟨by omega, fun v d h => ⟨(L.snd v d h).1, by have := (L.snd v d h).2; omega⟩, fun v d h l => L.cmp v d h (by omega), fun v h => ?_, fun v h => ?_, fun v => ?_, List.nodup_nil, fun _ h => h.elim⟩
  · exact (L.snd v t ((L.edg v).mp h)).1
  · exact (L.edg v).mpr (L.cmp v _ h (Nat.le_refl _))
  · constructor
    · intro h; cases h
    · intro h
      have := (L.snd v _ h).2
      omega
theorem Mid.lvl {S : List Int → Prop} {t : Nat} {F : List Int → Option Nat} {edge later : List (List Int)} {P : List Int → Prop} (M : Mid S t F edge later P) (h : ∀ u v, u ∈ edge → Stp u v → P v) : Lvl S t F later := by
  refine ⟨M.snd, fun v d hd l => ?_, M.ltr, M.nd⟩
  by_cases e : d = t
  · subst e
    obtain ⟨⟨s, h1, h2⟩, h3⟩ := id hd
    have hp := M.pos
    obtain ⟨t', rfl⟩ : ∃ t', d = t' + 1 := ⟨d - 1, by omega⟩
    obtain ⟨w, h4, h5⟩ := h2
    have hw : Dist S w t' := ⟨⟨s, h1, h4⟩, fun j hj s' hs' hr => h3 (j + 1) (by omega) s' hs' ⟨w, hr, h5⟩⟩
    have hF := M.don v (h w v (M.all w hw) h5)
    cases q : F v with
    | none => exact (hF q).elim
    | some d' => rw [(M.snd v d' q).1.uniq hd]
  · exact M.cmp v d hd (by omega)
theorem lvl_zero {S : List Int → Prop} {F : List Int → Option Nat} {edge : List (List Int)} (h1 : ∀ v, F v = if v ∈ edge then some 0 else none) (h2 : ∀ v, v ∈ edge ↔ S v) (h3 : edge.Nodup) : Lvl S 0 F edge := by
  refine ⟨fun v d h => ?_, fun v d h l => ?_, fun v => ?_, h3⟩
  · rw [h1] at h
    split at h
    · rename_i e
      cases h
      exact ⟨⟨⟨v, (h2 v).mp e, rfl⟩, fun j hj => absurd hj (by omega)⟩, Nat.le_refl _⟩
    · cases h
  · obtain ⟨⟨s, h4, h5⟩, _⟩ := h
    obtain rfl : d = 0 := by omega
    cases h5
    rw [h1, if_pos ((h2 _).mpr h4)]
  · rw [h1]
    split
    · rename_i e; simp [e]
    · rename_i e; simp [e]
/-! ### the same numbers -/
theorem dist_isD {row out : List Int} {S : List Int → Prop} (hS : ∀ t, S t ↔ t.length = out.length ∧ (∀ l ∈ t, l ∈ row) ∧ thinB row t = true) {d : Nat} (h : IsD row out d) : Dist S out d := by
  obtain ⟨⟨t, h1, h2⟩, h3⟩ := h
  refine ⟨⟨t, (hS t).mpr ⟨h1.perm.length_eq, (thin_iff.mp h2).mem, h2⟩, h1.symm⟩, fun j hj s hs hr => ?_⟩
  have := h3 j hj s hr.symm
  rw [((hS s).mp hs).2.2] at this; cases this
/-- the first level of the orders of a row out that holds a thinning -/
theorem number_isD {row out : List Int} {k : Nat} (h1 : ∀ j, j < k → ∀ v, Dist (fun s => s = out) v j → thinB row v = false) {v : List Int} (h2 : Dist (fun s => s = out) v k) (h3 : thinB row v = true) : IsD row out k := by
  obtain ⟨⟨s, rfl, h4⟩, _⟩ := h2
  refine ⟨⟨v, h4, h3⟩, fun j hj t hr => ?_⟩
  obtain ⟨d, h5, h6⟩ := dist_of (S := fun s' => s' = s) rfl hr
  exact h1 d (by omega) t h6
theorem number_end {row out : List Int} (h0 : ∀ l ∈ out, l ∈ row) (h1 : ∀ j, j < out.length → ∀ v, Dist (fun s => s = out) v j → thinB row v = false) : IsD row out out.length := by
  obtain ⟨d, h2, h3⟩ := isD_some h0
  by_cases e : d = out.length
  · rw [← e]; exact h3
  · obtain ⟨⟨t, h4, h5⟩, _⟩ := h3
    obtain ⟨j, h6, h7⟩ := dist_of (S := fun s => s = out) rfl h4
    rw [h1 j (by omega) t h7] at h5; cases h5
/-- the law's look at none, one, two exchanges -/
theorem due_one {row out : List Int} {d : Nat} (h : IsD row out d) (e : thinB row out = false) (e1 : ∃ v, Stp out v ∧ thinB row v = true) : d = 1 := by
  have z := isD_zero h
  have n0 : d ≠ 0 := fun q => by rw [z.mp q] at e; cases e
  obtain ⟨v, h3, h4⟩ := e1
  have := h.le (k := 1) (t := v) ⟨out, rfl, h3⟩ h4
  omega
theorem due_two {row out : List Int} {d : Nat} (h : IsD row out d) (h2 : d ≤ 2) (e : thinB row out = false) (e1 : ¬ ∃ v, Stp out v ∧ thinB row v = true) : d = 2 := by
  have z := isD_zero h
  have n0 : d ≠ 0 := fun q => by rw [z.mp q] at e; cases e
  have n1 : d ≠ 1 := by
    rintro rfl
    obtain ⟨⟨t, ⟨w, h3, h4⟩, h5⟩, _⟩ := h
    cases h3
    exact e1 ⟨t, h4, h5⟩
  omega
/-! ### the program's road: a queue -/
/-- the queue ws, the place at, labels lab, from out on; nothing ahead of at is a thinning, and all their neighbours are in the queue; P: the neighbours of the one at the place that are so far in it -/
structure Que (row out : List Int) (ws : List (List Int)) (lab : List Int → Nat) (at_ : Nat) (P : List Int → Prop) : Prop where
  zero : ws[0]? = some out
  lab0 : lab out = 0
  nd : ws.Nodup
  mono : ∀ (i j : Nat) (u v : List Int), i ≤ j → ws[i]? = some u → ws[j]? = some v → lab u ≤ lab v
  top : ∀ (u v : List Int), ws[at_]? = some u → v ∈ ws → lab v ≤ lab u + 1
  rch : ∀ u ∈ ws, Rch (lab u) out u
  thin : ∀ (i : Nat) (u : List Int), i < at_ → ws[i]? = some u → thinB row u = false
  near : ∀ (i : Nat) (u v : List Int), i < at_ → ws[i]? = some u → Stp u v → v ∈ ws ∧ lab v ≤ lab u + 1
  here : ∀ v, P v → v ∈ ws
theorem Que.start {row out : List Int} : Que row out [out] (fun _ => 0) 0 (fun _ => False) := by
  refine ⟨rfl, rfl, by simp, fun _ _ _ _ _ _ _ => Nat.le_refl _, fun _ _ _ _ => Nat.zero_le _, fun u hu => ?_, fun i u h => absurd h (by omega), fun i u v h => absurd h (by omega), fun _ h => h.elim⟩
  simp only [List.mem_singleton] at hu
  subst hu
  rfl
theorem Que.old {row out : List Int} {ws : List (List Int)} {lab : List Int → Nat} {a : Nat} {P : List Int → Prop} (Q : Que row out ws lab a P) {v : List Int} (hv : v ∈ ws) : Que row out ws lab a (fun w => P w ∨ w = v) :=
  { Q with here := fun w h => h.elim (fun h => Q.here w h) (fun h => h ▸ hv) }
theorem Que.new {row out : List Int} {ws : List (List Int)} {lab : List Int → Nat} {a : Nat} {P : List Int → Prop} (Q : Que row out ws lab a P) {u v : List Int} (hu : ws[a]? = some u) (hs : Stp u v) (hv : v ∉ ws) :
    Que row out (ws ++ [v]) (fun w => if w = v then lab u + 1 else lab w) a (fun w => P w ∨ w = v) := by
  have hne : ∀ {w : List Int}, w ∈ ws → w ≠ v := fun h e => hv (e ▸ h)
  have hl : ∀ {i : Nat} {w : List Int}, (ws ++ [v])[i]? = some w → (ws[i]? = some w ∧ w ≠ v) ∨ (i = ws.length ∧ w = v) := fun {i w} h => by
    by_cases l : i < ws.length
    · rw [List.getElem?_append_left l] at h
      exact .inl ⟨h, hne (List.mem_of_getElem? h)⟩
    · rw [List.getElem?_append_right (by omega)] at h
      have : i - ws.length = 0 := by
        by_cases e : i - ws.length = 0
        · exact e
        · rw [List.getElem?_eq_none (by simp; omega)] at h; cases h
      rw [this] at h
      cases h
      exact .inr ⟨by omega, rfl⟩
  have la : a < ws.length := (List.getElem?_eq_some_iff.mp hu).1
  refine ⟨?_, ?_, ?_, fun i j x y hij hx hy => ?_, fun x y hx hy => ?_, fun x hx => ?_, fun i x hi hx => ?_, fun i x y hi hx hxy => ?_, fun w h => ?_⟩
  · rw [List.getElem?_append_left (by omega)]; exact Q.zero
  · show (if out = v then _ else _) = 0
    rw [if_neg (hne (List.mem_of_getElem? Q.zero))]; exact Q.lab0
  · rw [List.nodup_append]
    refine ⟨Q.nd, by simp, fun x hx y hy e => ?_⟩
    rw [List.mem_singleton] at hy
    exact hne hx (e.trans hy)
  · rcases hl hx with ⟨hx, nx⟩ | ⟨ex', rfl⟩
    · rcases hl hy with ⟨hy, ny⟩ | ⟨ey, ey2⟩
      · simp only [if_neg nx, if_neg ny]; exact Q.mono i j x y hij hx hy
      · simp only [if_neg nx, if_pos ey2]; exact Q.top u x hu (List.mem_of_getElem? hx)
    · rcases hl hy with ⟨hy, ny⟩ | ⟨ey, rfl⟩
      · have := (List.getElem?_eq_some_iff.mp hy).1
        omega
      · exact Nat.le_refl _
  · rcases hl hx with ⟨hx, nx⟩ | ⟨ex', _⟩
    · rw [hu] at hx; cases hx
      simp only [if_neg nx]
      rcases List.mem_append.mp hy with hy | hy
      · simp only [if_neg (hne hy)]; exact Q.top u y hu hy
      · rw [List.mem_singleton] at hy
        simp only [if_pos hy]; exact Nat.le_refl _
    · omega
  · rcases List.mem_append.mp hx with hx | hx
    · simp only [if_neg (hne hx)]; exact Q.rch x hx
    · rw [List.mem_singleton] at hx
      subst hx
      simp only [if_true]
      exact ⟨u, Q.rch u (List.mem_of_getElem? hu), hs⟩
  · rw [List.getElem?_append_left (by omega)] at hx
    exact Q.thin i x hi hx
  · rw [List.getElem?_append_left (by omega)] at hx
    obtain ⟨h1, h2⟩ := Q.near i x y hi hx hxy
    refine ⟨List.mem_append_left _ h1, ?_⟩
    simp only [if_neg (hne h1), if_neg (hne (List.mem_of_getElem? hx))]
    exact h2
  · rcases h with h | h
    · exact List.mem_append_left _ (Q.here w h)
    · rw [h]; simp
theorem Que.next {row out : List Int} {ws : List (List Int)} {lab : List Int → Nat} {a : Nat} {P : List Int → Prop} (Q : Que row out ws lab a P) {u : List Int} (hu : ws[a]? = some u) (ht : thinB row u = false) (hP : ∀ v, Stp u v → P v) :
    Que row out ws lab (a + 1) (fun _ => False) := by
  refine { Q with top := fun x y hx hy => ?_, thin := fun i x hi hx => ?_, near := fun i x y hi hx hxy => ?_, here := fun _ h => h.elim }
  · have h1 := Q.top u y hu hy
    have h2 := Q.mono a (a + 1) u x (by omega) hu hx
    omega
  · by_cases e : i = a
    · subst e; rw [hu] at hx; cases hx; exact ht
    · exact Q.thin i x (by omega) hx
  · by_cases e : i = a
    · subst e; rw [hu] at hx; cases hx
      have hm := Q.here y (hP y hxy)
      exact ⟨hm, Q.top u y hu hm⟩
    · exact Q.near i x y (by omega) hx hxy
/-- the place is in the queue as long as some thinning can be reached -/
theorem Que.inside {row out : List Int} {ws : List (List Int)} {lab : List Int → Nat} {a : Nat} {P : List Int → Prop} (Q : Que row out ws lab a P) {d : Nat} (h : IsD row out d) : a < ws.length := by
  apply Nat.lt_of_not_le
  intro l
  have all : ∀ k v, Rch k out v → v ∈ ws := by
    intro k
    induction k with
    | zero => intro v h; cases h; exact List.mem_of_getElem? Q.zero
    | succ k ih =>
      rintro v ⟨w, h1, h2⟩
      obtain ⟨i, hi⟩ := List.getElem?_of_mem (ih w h1)
      have := (List.getElem?_eq_some_iff.mp hi).1
      exact (Q.near i w v (by omega) hi h2).1
  obtain ⟨⟨t, h1, h2⟩, _⟩ := h
  obtain ⟨i, hi⟩ := List.getElem?_of_mem (all d t h1)
  have := (List.getElem?_eq_some_iff.mp hi).1
  rw [Q.thin i t (by omega) hi] at h2; cases h2
theorem Que.found {row out : List Int} {ws : List (List Int)} {lab : List Int → Nat} {a : Nat} {P : List Int → Prop} (Q : Que row out ws lab a P) {u : List Int} (hu : ws[a]? = some u) (ht : thinB row u = true) : IsD row out (lab u) := by
  refine ⟨⟨u, Q.rch u (List.mem_of_getElem? hu), ht⟩, fun k hk t hr => ?_⟩
  have all : ∀ k, k < lab u → ∀ v, Rch k out v → ∃ i, i < a ∧ ws[i]? = some v ∧ lab v ≤ k := by
    intro k
    induction k with
    | zero =>
      intro hk v h
      cases h
      refine ⟨0, ?_, Q.zero, by rw [Q.lab0]; exact Nat.le_refl _⟩
      apply Nat.pos_of_ne_zero
      rintro rfl
      rw [Q.zero] at hu; cases hu
      rw [Q.lab0] at hk; omega
    | succ k ih =>
      rintro hk v ⟨w, h1, h2⟩
      obtain ⟨i, hi, h3, h4⟩ := ih (by omega) w h1
      obtain ⟨h5, h6⟩ := Q.near i w v hi h3 h2
      obtain ⟨j, hj⟩ := List.getElem?_of_mem h5
      refine ⟨j, ?_, hj, by omega⟩
      apply Nat.lt_of_not_le
      intro l
      have := Q.mono a j u v l hu hj
      omega
  obtain ⟨i, hi, h1, h2⟩ := all k hk t hr
  exact Q.thin i t hi h1
end K17
namespace K17
open PySem L2
theorem hu2_of {A : Around} {k : Nat} (hr : Room k A) : A.units + 2 < cLine := by have := hr.un; omega
/-- len of a list or tuple -/
def rLenS (K : PySem.W.Frag) : List V → Hp → VK → Prop := fun xs H Q => ∃ p ys, xs = [.ref p] ∧ (SqL K H p ys ∨ SqT K H p ys) ∧ Q (.int ys.length) H
theorem call_lenS {X : Cx} : CallR X (.builtin "len") (rLenS X.K) := call_len_seq
/-! ### heaps -/
theorem same_new {H : Hp} {p : Addr} {o : HO} (h : H p = none) : Same H (upd H p o) := fun b u e => by
  rw [upd_ne (ne_of_none e h)]; exact e
/-- what was not there at first may be written -/
theorem same_upd {H0 H : Hp} {p : Addr} {o : HO} (s : Same H0 H) (h : H0 p = none) : Same H0 (upd H p o) := fun b u e => by
  rw [upd_ne (ne_of_none e h)]; exact s b u e
/-- all but the object at h is as it was -/
def But (h : Addr) (H H' : Hp) : Prop := ∀ b o, b ≠ h → H b = some o → H' b = some o
theorem But.refl (h : Addr) (H : Hp) : But h H H := fun _ _ _ e => e
theorem But.trans {h : Addr} {H H1 H2 : Hp} (a : But h H H1) (b : But h H1 H2) : But h H H2 := fun c o n e => b c o n (a c o n e)
theorem But.same {h : Addr} {H H1 H2 : Hp} (a : But h H H1) (b : Same H1 H2) : But h H H2 := fun c o n e => b c o (a c o n e)
theorem Same.but {h : Addr} {H H1 : Hp} (b : Same H H1) : But h H H1 := fun c o _ e => b c o e
theorem but_upd {h : Addr} {H : Hp} {o : HO} : But h H (upd H h o) := fun b u n e => by rw [upd_ne n]; exact e
theorem but_new {h p : Addr} {H0 H : Hp} {o : HO} (s : But h H0 H) (n : H0 p = none) : But h H0 (upd H p o) := fun b u nb e => by
  rw [upd_ne (ne_of_none e n)]; exact s b u nb e
theorem But.free {h : Addr} {H H' : Hp} (e : But h H H') {l : Addr} (hl : l ≠ h) (n : H' l = none) : H l = none := by
  cases q : H l with
  | none => rfl
  | some o =>
    rw [e l o hl q] at n
    cases n
/-- a row -/
def rowO (r : List Int) : HO := .tup (r.map V.int)
def RowAt (H : Hp) (p : Addr) (r : List Int) : Prop := H p = some (rowO r)
def keyR (r : List Int) : List Key := r.map Sum.inl
theorem keyR_kV (r : List Int) : (keyR r).map kV = r.map V.int := by
  unfold keyR
  rw [List.map_map]
  rfl
theorem keyR_inj {r u : List Int} (h : keyR r = keyR u) : r = u := by
  have e := congrArg (List.map (fun k : Key => match k with | .inl i => i | .inr _ => 0)) h
  simpa [keyR, Function.comp_def] using e
theorem RowAt.key {H : Hp} {p : Addr} {r : List Int} (h : RowAt H p r) : H p = some (.tup ((keyR r).map kV)) := by rw [keyR_kV]; exact h
theorem RowAt.sq {K : PySem.W.Frag} {H : Hp} {p : Addr} {r : List Int} (h : RowAt H p r) : SqT K H p (r.map V.int) := SqT.of h
theorem RowAt.same {H H' : Hp} {p : Addr} {r : List Int} (h : RowAt H p r) (s : Same H H') : RowAt H' p r := s _ _ h
theorem RowAt.but {h : Addr} {H H' : Hp} {p : Addr} {r : List Int} (q : RowAt H p r) (s : But h H H') {xs : List V} (e : H h = some (.lst xs)) : RowAt H' p r :=
  s _ _ (ne_of q e (fun z => nomatch z)) q
theorem RowAt.uniq {H : Hp} {p : Addr} {r u : List Int} (h : RowAt H p r) (h2 : RowAt H p u) : r = u := by
  have e : (.tup (r.map V.int) : HO) = .tup (u.map V.int) := Option.some.inj (h.symm.trans h2)
  have e2 : r.map V.int = u.map V.int := HO.tup.inj e
  have e3 := congrArg (List.map (fun v : V => match v with | .int i => i | _ => 0)) e2
  simpa [Function.comp_def] using e3
/-- addresses of rows -/
def Rows (H : Hp) (bs : List Addr) (rs : List (List Int)) : Prop := Paired (fun b r => RowAt H b r) bs rs
theorem Rows.length {H : Hp} {bs : List Addr} {rs : List (List Int)} (h : Rows H bs rs) : bs.length = rs.length := Paired.length h
/-- tuples stay -/
def TS (H H' : Hp) : Prop := ∀ b xs, H b = some (.tup xs) → H' b = some (.tup xs)
theorem Same.ts {H H' : Hp} (s : Same H H') : TS H H' := fun b xs e => s b _ e
theorem TS.refl (H : Hp) : TS H H := fun _ _ e => e
theorem TS.trans {H H1 H2 : Hp} (a : TS H H1) (b : TS H1 H2) : TS H H2 := fun c o e => b c o (a c o e)
theorem But.ts {h : Addr} {H H' : Hp} (s : But h H H') {xs : List V} (e : H h = some (.lst xs)) : TS H H' := fun b ys q => s b _ (ne_of q e (fun z => nomatch z)) q
/-- a list or a dict is written -/
theorem ts_lst {H : Hp} {p : Addr} {xs : List V} {o : HO} (h : H p = some (.lst xs)) : TS H (upd H p o) := fun b ys q => by
  rw [upd_ne (ne_of q h (fun z => nomatch z))]; exact q
theorem ts_dT {H : Hp} {p : Addr} {kvs : List (List Key × V)} {o : HO} (h : H p = some (.dT kvs)) : TS H (upd H p o) := fun b ys q => by
  rw [upd_ne (ne_of q h (fun z => nomatch z))]; exact q
theorem ts_new {H : Hp} {p : Addr} {o : HO} (h : H p = none) : TS H (upd H p o) := fun b ys q => by
  rw [upd_ne (ne_of_none q h)]; exact q
theorem RowAt.ts {H H' : Hp} {p : Addr} {r : List Int} (h : RowAt H p r) (s : TS H H') : RowAt H' p r := s _ _ h
theorem Rows.ts {H H' : Hp} {bs : List Addr} {rs : List (List Int)} (h : Rows H bs rs) (s : TS H H') : Rows H' bs rs := Paired.mapP h fun _ _ q => q.ts s
theorem Rows.at {H : Hp} {bs : List Addr} {rs : List (List Int)} (h : Rows H bs rs) {i : Nat} {b : Addr} (e : bs[i]? = some b) : ∃ r, rs[i]? = some r ∧ RowAt H b r := by
  induction h generalizing i with
  | nil => simp at e
  | cons q t ih =>
    cases i with
    | zero => simp at e; subst e; exact ⟨_, rfl, q⟩
    | succ i => simpa using ih (by simpa using e)
theorem Rows.back {H : Hp} {bs : List Addr} {rs : List (List Int)} (h : Rows H bs rs) {i : Nat} {r : List Int} (e : rs[i]? = some r) : ∃ b, bs[i]? = some b ∧ RowAt H b r := by
  induction h generalizing i with
  | nil => simp at e
  | cons q t ih =>
    cases i with
    | zero => simp at e; subst e; exact ⟨_, rfl, q⟩
    | succ i => simpa using ih (by simpa using e)
theorem Rows.snoc {H : Hp} {bs : List Addr} {rs : List (List Int)} (h : Rows H bs rs) {b : Addr} {r : List Int} (q : RowAt H b r) : Rows H (bs ++ [b]) (rs ++ [r]) := Paired.snoc h q
theorem Rows.app {H : Hp} {bs cs : List Addr} {rs us : List (List Int)} (h : Rows H bs rs) (h2 : Rows H cs us) : Rows H (bs ++ cs) (rs ++ us) := by
  induction h with
  | nil => exact h2
  | cons q t ih => exact .cons q ih
/-- addresses of exchanges -/
def exO (e : Nat × Nat × Nat) : HO := .tup [.int e.1, .int e.2.1, .int e.2.2]
def Exs (H : Hp) (bs : List Addr) (es : List (Nat × Nat × Nat)) : Prop := Paired (fun b e => H b = some (exO e)) bs es
theorem Exs.ts {H H' : Hp} {bs : List Addr} {es : List (Nat × Nat × Nat)} (h : Exs H bs es) (s : TS H H') : Exs H' bs es := Paired.mapP h fun _ _ q => s _ _ q
theorem Exs.at {H : Hp} {bs : List Addr} {es : List (Nat × Nat × Nat)} (h : Exs H bs es) {i : Nat} {b : Addr} (e : bs[i]? = some b) : ∃ r, es[i]? = some r ∧ H b = some (exO r) := by
  induction h generalizing i with
  | nil => simp at e
  | cons q t ih =>
    cases i with
    | zero => simp at e; subst e; exact ⟨_, rfl, q⟩
    | succ i => simpa using ih (by simpa using e)
theorem Exs.app {H : Hp} {bs cs : List Addr} {es us : List (Nat × Nat × Nat)} (h : Exs H bs es) (h2 : Exs H cs us) : Exs H (bs ++ cs) (es ++ us) := by
  induction h with
  | nil => exact h2
  | cons q t ih => exact .cons q ih
/-- an item of a mapped list -/
theorem at_map {α : Type} {g : α → V} {l : List α} {i : Nat} {y : V} (h : (l.map g)[i]? = some y) : ∃ x, l[i]? = some x ∧ y = g x := by
  rw [List.getElem?_map] at h
  cases e : l[i]? with
  | none => rw [e] at h; cases h
  | some x => rw [e] at h; exact ⟨x, rfl, (Option.some.inj h).symm⟩
theorem map_at {α : Type} {g : α → V} {l : List α} {i : Nat} {x : α} (h : l[i]? = some x) : (l.map g)[i]? = some (g x) := by
  rw [List.getElem?_map, h]; rfl
/-- x in row -/
theorem inV_int (x : Int) : ∀ r : List Int, inV (.int x) (r.map V.int) = decide (x ∈ r)
  | [] => by simp [inV]
  | y :: r => by
    have ih := inV_int x r
    unfold inV at ih ⊢
    rw [List.map_cons, List.any_cons, ih]
    by_cases e : y = x
    · subst e
      simp [eqV]
    · have e2 : eqV (.int y) (.int x) = false := by simp [eqV, e]
      rw [e2]
      have e3 : ¬ x = y := fun q => e q.symm
      simp [e3]
theorem flat_ints (r : List Int) : (r.map V.int).all flatV = true := by
  rw [List.all_eq_true]
  intro v hv
  obtain ⟨i, _, rfl⟩ := List.mem_map.mp hv
  rfl
end K17
namespace K17
open PySem L2
section
variable {P : Program} {w : World} {K : PySem.W.Frag} {mg : Str → Option Value} {base : Heap}
/-! ### checks -/
def spIsInteger : Sp := fun vs H Q _ => ∃ i : Int, vs = [.int i] ∧ Q (.bl true) H
abbrev nIsInteger : List Str := ["thing"]
theorem scIsInteger : FnScope nIsInteger ["thing"] (defScope sIsInteger) := ⟨rfl, rfl, rfl, by decide +kernel, rfl, by decide +kernel, by decide +kernel⟩
theorem ok_IsInteger {f : Addr} {fd : FuncData} (T : Txt K mg) (F : Fun K "is_integer" "is_integer" sIsInteger f fd) : FnOk P w K mg base CX0 1 f fd ["thing"] spIsInteger := by
  refine F.ok scIsInteger (fun vs H Q E h => ?_) (fun cdv A outer s H vs Q E hr h => ?_)
  · obtain ⟨i, rfl, _⟩ := h
    rfl
  · obtain ⟨i, rfl, k⟩ := h
    refine ⟨_, (pss_one (ps_ret (pe_and (pe_callB call_isi (by rfl) T.b_isinstance (by decide +kernel) (pa_cons (pv 0) (pa_cons (pe_bltn (v := .ty "int") (by rfl) T.b_int (by decide +kernel) rfl) pa_nil))) (pe_one (pe_not (pe_callB call_isi (by rfl) T.b_isinstance (by decide +kernel) (pa_cons (pv 0) (pa_cons (pe_bltn (v := .ty "bool") (by rfl) T.b_bool (by decide +kernel) rfl) pa_nil)))))))), ?_⟩
    refine ⟨_, rfl, .int i, .ty "int", .type "int", _, true, rfl, .ty _, .base (.int i), kit_ty (by decide +kernel), true, rfl, ?_⟩
    refine iteT ?_
    refine ⟨_, rfl, .int i, .ty "bool", .type "int", _, false, rfl, .ty _, .base (.int i), kit_ty (by decide +kernel), false, rfl, k⟩
def spIsBetween : Sp := fun vs H Q _ => ∃ i l m : Int, vs = [.int i, .int l, .int m] ∧ Q (.bl (decide (l ≤ i) && decide (i ≤ m))) H
abbrev nIsBetween : List Str := ["thing", "least", "most"]
theorem scIsBetween : FnScope nIsBetween ["thing", "least", "most"] (defScope sIsBetween) := ⟨rfl, rfl, rfl, by decide +kernel, rfl, by decide +kernel, by decide +kernel⟩
theorem ok_IsBetween {f : Addr} {fd : FuncData} (T : Txt K mg) (F : Fun K "is_between" "is_between" sIsBetween f fd) : FnOk P w K mg base CX0 2 f fd ["thing", "least", "most"] spIsBetween := by
  obtain ⟨fIsInteger, fdIsInteger, FIsInteger, mIsInteger, bIsInteger⟩ := T.isInteger
  have GIsInteger := ok_IsInteger (P := P) (w := w) (base := base) T FIsInteger
  refine F.ok scIsBetween (fun vs H Q E h => ?_) (fun cdv A outer s H vs Q E hr h => ?_)
  · obtain ⟨i, l, m, rfl, _⟩ := h
    rfl
  · obtain ⟨i, l, m, rfl, k⟩ := h
    refine ⟨_, (pss_one (ps_ret (pe_and (pe_call GIsInteger (hr.mono (by decide)) (by rfl) mIsInteger FIsInteger.kp bIsInteger .nil pass0 (pa_cons (pv 0) pa_nil)) (pe_one (pe_chain op_le op_le (pv 1) (pv 0) (pv 2)))))), ?_⟩
    refine ⟨_, rfl, i, rfl, true, rfl, iteT ?_⟩
    refine ⟨_, rfl, _, rfl, _, _, rfl, rfl, _, rfl, ?_⟩
    refine ite2 (fun c => ?_) (fun c => ?_)
    · refine ⟨_, rfl, _, _, rfl, rfl, ?_⟩
      have e : decide (l ≤ i) = true := c
      rw [e, Bool.true_and] at k
      exact k
    · have e : decide (l ≤ i) = false := by simpa using c
      rw [e, Bool.false_and] at k
      exact k
def spIsIndex : Sp := fun vs H Q _ => ∃ i m : Int, vs = [.int i, .int m] ∧ Q (.bl (decide (0 ≤ i) && decide (i ≤ m - 1))) H
abbrev nIsIndex : List Str := ["thing", "many"]
theorem scIsIndex : FnScope nIsIndex ["thing", "many"] (defScope sIsIndex) := ⟨rfl, rfl, rfl, by decide +kernel, rfl, by decide +kernel, by decide +kernel⟩
theorem ok_IsIndex {f : Addr} {fd : FuncData} (T : Txt K mg) (F : Fun K "is_index" "is_index" sIsIndex f fd) : FnOk P w K mg base CX0 3 f fd ["thing", "many"] spIsIndex := by
  obtain ⟨fIsBetween, fdIsBetween, FIsBetween, mIsBetween, bIsBetween⟩ := T.isBetween
  have GIsBetween := ok_IsBetween (P := P) (w := w) (base := base) T FIsBetween
  refine F.ok scIsIndex (fun vs H Q E h => ?_) (fun cdv A outer s H vs Q E hr h => ?_)
  · obtain ⟨i, m, rfl, _⟩ := h
    rfl
  · obtain ⟨i, m, rfl, k⟩ := h
    refine ⟨_, (pss_one (ps_ret (pe_call GIsBetween (hr.mono (by decide)) (by rfl) mIsBetween FIsBetween.kp bIsBetween .nil pass0 (pa_cons (pv 0) (pa_cons pe_int (pa_cons (pe_op op_sub (pv 1) pe_int) pa_nil)))))), ?_⟩
    exact ⟨_, rfl, _, rfl, _, _, rfl, rfl, i, 0, m - 1, rfl, k⟩
def spIsIntegers : Sp := fun vs H Q _ => ∃ (p : Addr) (r : List Int) (m : Int), vs = [.ref p, .int m] ∧ RowAt H p r ∧ m = r.length ∧ r.length ≤ 1000 ∧ ∀ H', Same H H' → Q (.bl true) H'
abbrev nIsIntegers : List Str := ["thing", "many", "one"]
theorem scIsIntegers : FnScope nIsIntegers ["thing", "many"] (defScope sIsIntegers) := ⟨rfl, rfl, rfl, by decide +kernel, rfl, by decide +kernel, by decide +kernel⟩
theorem ok_IsIntegers {f : Addr} {fd : FuncData} (T : Txt K mg) (F : Fun K "is_integers" "is_integers" sIsIntegers f fd) : FnOk P w K mg base CX0 2 f fd ["thing", "many"] spIsIntegers := by
  obtain ⟨fIsInteger, fdIsInteger, FIsInteger, mIsInteger, bIsInteger⟩ := T.isInteger
  have GIsInteger := ok_IsInteger (P := P) (w := w) (base := base) T FIsInteger
  refine F.ok scIsIntegers (fun vs H Q E h => ?_) (fun cdv A outer s H vs Q E hr h => ?_)
  · obtain ⟨p, r, m, rfl, _⟩ := h
    rfl
  · obtain ⟨p, r, m, rfl, hp, hm, hl, k⟩ := h
    refine ⟨_, (pss_one (ps_ret (pe_and (pe_callB call_isi (by rfl) T.b_isinstance (by decide +kernel) (pa_cons (pv 0) (pa_cons (pe_bltn (v := .ty "tuple") (by rfl) T.b_tuple (by decide +kernel) rfl) pa_nil))) (pe_and (pe_cmpR op_eq (pe_callB call_len_seq (by rfl) T.b_len (by decide +kernel) (pa_cons (pv 0) pa_nil)) (pv 1) (nomark _)) (pe_one (pe_callB (cr_all rfl) (by rfl) T.b_all (by decide +kernel) (pa_cons (pe_lc (own := [("one", 2)]) (g := gName 2) (tt := tYes) rfl scIsIntegers.nd (pi_tup (pv 0)) (blkOk_by (N := nIsIntegers) (sc := defScope sIsIntegers) (by decide +kernel)) (fun _ _ _ _ _ => (pg_name (i := 2) scIsIntegers.nd rfl (Or.inl rfl))) (fun _ _ _ _ _ => pts_nil) (fun _ _ _ _ _ => (pe_call GIsInteger (hr.mono (by decide)) (by rfl) mIsInteger FIsInteger.kp bIsInteger .nil pass0 (pa_cons (pv 2) pa_nil)))) pa_nil))))))), ?_⟩
    refine ⟨_, rfl, .ref p, .ty "tuple", .type "tuple", _, true, rfl, .ty _, .base (.tup hp), kit_ty (by decide +kernel), true, rfl, iteT ?_⟩
    refine ⟨_, rfl, p, _, rfl, .inr hp.sq, _, rfl, by rfl, true, ?_, iteT ?_⟩
    · rw [List.length_map, hm]; simp
    refine ⟨_, rfl, p, rfl, ⟨_, hp.sq⟩, fun D hD => lc_tup (K := K) (a := p) (xs := r.map V.int) (fun i H' => Same H H' ∧ H' D = some (.lst ((List.replicate i true).map V.bl)) ∧ i ≤ 1000)
      ⟨same_new hD, upd_same, Nat.zero_le _⟩ (fun i H' _ q => (hp.same q.1).sq) ?_ ?_⟩
    · rintro i x H' hx ⟨q1, q2, q3⟩
      obtain ⟨y, hy, rfl⟩ := at_map hx
      have hi := (List.getElem?_eq_some_iff.mp hy).1
      refine ⟨rfl, ?_⟩
      refine ⟨_, rfl, y, rfl, _, q2, by rw [List.length_map, List.length_replicate]; exact Nat.lt_of_le_of_lt q3 (by decide), same_upd q1 hD, ?_, by omega⟩
      rw [upd_same, List.replicate_succ']
      simp
    · rintro H' ⟨q1, q2, q3⟩
      refine ⟨D, _, rfl, SqL.of q2, ?_⟩
      have e : (List.replicate (r.map V.int).length true).all id = true := by simp
      rw [e]
      exact k H' q1
def Valid (r : List Int) : Prop := 1 ≤ r.length ∧ r.length ≤ 1000 ∧ Lets r
def spIsRow : Sp := fun vs H Q _ => ∃ (p : Addr) (r : List Int), vs = [.ref p] ∧ RowAt H p r ∧ Valid r ∧ ∀ H', Same H H' → Q (.bl true) H'
abbrev nIsRow : List Str := ["thing", "letter"]
theorem scIsRow : FnScope nIsRow ["thing"] (defScope sIsRow) := ⟨rfl, rfl, rfl, by decide +kernel, rfl, by decide +kernel, by decide +kernel⟩
theorem ok_IsRow {f : Addr} {fd : FuncData} (T : Txt K mg) (F : Fun K "is_row" "is_row" sIsRow f fd) : FnOk P w K mg base CX0 4 f fd ["thing"] spIsRow := by
  obtain ⟨fIsIndex, fdIsIndex, FIsIndex, mIsIndex, bIsIndex⟩ := T.isIndex
  have GIsIndex := ok_IsIndex (P := P) (w := w) (base := base) T FIsIndex
  obtain ⟨tLet, mLet⟩ := T.mLet
  obtain ⟨tLan, mLan⟩ := T.mLan
  refine F.ok scIsRow (fun vs H Q E h => ?_) (fun cdv A outer s H vs Q E hr h => ?_)
  · obtain ⟨p, r, rfl, _⟩ := h
    rfl
  · obtain ⟨p, r, rfl, hp, ⟨h1, h2, h3⟩, k⟩ := h
    refine ⟨_, (pss_cons (ps_if (PW.pt (pw_or (pt_not (pt_val (pe_callB call_isi (by rfl) T.b_isinstance (by decide +kernel) (pa_cons (pv 0) (pa_cons (pe_bltn (v := .ty "tuple") (by rfl) T.b_tuple (by decide +kernel) rfl) pa_nil))))) (pw_or1 (pt_not (pt_chain op_le op_le pe_int (pe_callB call_len_seq (by rfl) T.b_len (by decide +kernel) (pa_cons (pv 0) pa_nil)) (pe_glob (v := .int 1000) (by rfl) mLan ⟨_, rfl⟩)))))) (pss_one (ps_ret pe_bl)) pss_nil)
    (pss_one (ps_ret (pe_callB (cr_all rfl) (by rfl) T.b_all (by decide +kernel) (pa_cons (pe_lc (own := [("letter", 1)]) (g := gName 1) (tt := tYes) rfl scIsRow.nd (pi_tup (pv 0)) (blkOk_by (N := nIsRow) (sc := defScope sIsRow) (by decide +kernel)) (fun _ _ _ _ _ => (pg_name (i := 1) scIsRow.nd rfl (Or.inl rfl))) (fun _ _ _ _ _ => pts_nil) (fun _ _ _ _ _ => (pe_call GIsIndex (hr.mono (by decide)) (by rfl) mIsIndex FIsIndex.kp bIsIndex .nil pass0 (pa_cons (pv 1) (pa_cons (pe_glob (v := .int 4) (by rfl) mLet ⟨_, rfl⟩) pa_nil))))) pa_nil))))), ?_⟩
    refine ⟨_, rfl, .ref p, .ty "tuple", .type "tuple", _, true, rfl, .ty _, .base (.tup hp), kit_ty (by decide +kernel), true, rfl, ?_⟩
    refine iteF ?_
    refine ⟨_, rfl, p, _, rfl, .inr hp.sq, ?_⟩
    refine ⟨_, _, rfl, rfl, true, ?_, iteT ?_⟩
    · rw [List.length_map]
      have e : decide ((1 : Int) ≤ (r.length : Int)) = true := by simp; omega
      exact congrArg V.bl e
    refine ⟨_, _, rfl, rfl, true, ?_, ?_⟩
    · rw [List.length_map]
      have e : decide ((r.length : Int) ≤ (1000 : Int)) = true := by simp; omega
      exact congrArg V.bl e
    refine iteF ?_
    refine ⟨_, rfl, p, rfl, ⟨_, hp.sq⟩, fun D hD => lc_tup (K := K) (a := p) (xs := r.map V.int) (fun i H' => Same H H' ∧ H' D = some (.lst ((List.replicate i true).map V.bl)) ∧ i ≤ 1000)
      ⟨same_new hD, upd_same, Nat.zero_le _⟩ (fun i H' _ q => (hp.same q.1).sq) ?_ ?_⟩
    · rintro i x H' hx ⟨q1, q2, q3⟩
      obtain ⟨y, hy, rfl⟩ := at_map hx
      have hi := (List.getElem?_eq_some_iff.mp hy).1
      have hl := h3 y (List.mem_of_getElem? hy)
      refine ⟨rfl, ?_⟩
      refine ⟨_, rfl, y, 4, rfl, _, q2, by rw [List.length_map, List.length_replicate]; exact Nat.lt_of_le_of_lt q3 (by decide), same_upd q1 hD, ?_, by omega⟩
      rw [upd_same, List.replicate_succ']
      have e1 : decide (0 ≤ y) = true := by simp; omega
      have e2 : decide (y ≤ 4 - 1) = true := by simp; omega
      rw [e1, e2]
      simp
    · rintro H' ⟨q1, q2, q3⟩
      refine ⟨D, _, rfl, SqL.of q2, ?_⟩
      have e : (List.replicate (r.map V.int).length true).all id = true := by simp
      rw [e]
      exact k H' q1
def spCheckRow : Sp := fun vs H Q _ => ∃ (p : Addr) (r : List Int), vs = [.ref p] ∧ RowAt H p r ∧ Valid r ∧ ∀ H', Same H H' → Q .non H'
abbrev nCheckRow : List Str := ["thing"]
theorem scCheckRow : FnScope nCheckRow ["thing"] (defScope sCheckRow) := ⟨rfl, rfl, rfl, by decide +kernel, rfl, by decide +kernel, by decide +kernel⟩
theorem ok_CheckRow {f : Addr} {fd : FuncData} (T : Txt K mg) (F : Fun K "check_row" "check_row" sCheckRow f fd) : FnOk P w K mg base CX0 5 f fd ["thing"] spCheckRow := by
  obtain ⟨fIsRow, fdIsRow, FIsRow, mIsRow, bIsRow⟩ := T.isRow
  have GIsRow := ok_IsRow (P := P) (w := w) (base := base) T FIsRow
  refine F.ok scCheckRow (fun vs H Q E h => ?_) (fun cdv A outer s H vs Q E hr h => ?_)
  · obtain ⟨p, r, rfl, _⟩ := h
    rfl
  · obtain ⟨p, r, rfl, hp, hv, k⟩ := h
    refine ⟨_, (pss_one (ps_if (pt_not (pt_val (pe_call GIsRow (hr.mono (by decide)) (by rfl) mIsRow FIsRow.kp bIsRow .nil pass0 (pa_cons (pv 0) pa_nil)))) (pss_one ps_never) pss_nil)), ?_⟩
    exact ⟨_, rfl, p, r, rfl, hp, hv, fun H' q => ⟨_, rfl, iteF (k H' q)⟩⟩
def spCheckBoth : Sp := fun vs H Q _ => ∃ (p q : Addr) (r o : List Int), vs = [.ref p, .ref q] ∧ RowAt H p r ∧ RowAt H q o ∧ Valid r ∧ Valid o ∧ ∀ H', Same H H' → Q .non H'
abbrev nCheckBoth : List Str := ["row", "out"]
theorem scCheckBoth : FnScope nCheckBoth ["row", "out"] (defScope sCheckBoth) := ⟨rfl, rfl, rfl, by decide +kernel, rfl, by decide +kernel, by decide +kernel⟩
theorem ok_CheckBoth {f : Addr} {fd : FuncData} (T : Txt K mg) (F : Fun K "check_both" "check_both" sCheckBoth f fd) : FnOk P w K mg base CX0 6 f fd ["row", "out"] spCheckBoth := by
  obtain ⟨fCheckRow, fdCheckRow, FCheckRow, mCheckRow, bCheckRow⟩ := T.checkRow
  have GCheckRow := ok_CheckRow (P := P) (w := w) (base := base) T FCheckRow
  refine F.ok scCheckBoth (fun vs H Q E h => ?_) (fun cdv A outer s H vs Q E hr h => ?_)
  · obtain ⟨p, q, r, o, rfl, _⟩ := h
    rfl
  · obtain ⟨p, q, r, o, rfl, hp, hq, hv, hu, k⟩ := h
    refine ⟨_, (pss_cons (ps_expr (pe_call GCheckRow (hr.mono (by decide)) (by rfl) mCheckRow FCheckRow.kp bCheckRow .nil pass0 (pa_cons (pv 0) pa_nil)))
    (pss_one (ps_expr (pe_call GCheckRow (hr.mono (by decide)) (by rfl) mCheckRow FCheckRow.kp bCheckRow .nil pass0 (pa_cons (pv 1) pa_nil))))), ?_⟩
    exact ⟨_, rfl, p, r, rfl, hp, hv, fun H1 s1 => ⟨_, rfl, q, o, rfl, hq.same s1, hu, fun H2 s2 => k H2 (s1.trans s2)⟩⟩
/-! ### thinnings -/
def spNextPlace : Sp := fun vs H Q _ => ∃ (p : Addr) (r : List Int) (a : Nat) (l : Int), vs = [.ref p, .int a, .int l] ∧ RowAt H p r ∧ r.length ≤ 1000 ∧ a ≤ r.length ∧
  (∀ q : Nat, a ≤ q → r[q]? = some l → (∀ j, a ≤ j → j < q → r[j]? ≠ some l) → Q (.int q) H) ∧ ((∀ j, a ≤ j → r[j]? ≠ some l) → Q .non H)
abbrev nNextPlace : List Str := ["row", "first", "letter", "place"]
theorem scNextPlace : FnScope nNextPlace ["row", "first", "letter"] (defScope sNextPlace) := ⟨rfl, rfl, rfl, by decide +kernel, rfl, by decide +kernel, by decide +kernel⟩
theorem ok_NextPlace {f : Addr} {fd : FuncData} (T : Txt K mg) (F : Fun K "next_place" "next_place" sNextPlace f fd) : FnOk P w K mg base CX0 1 f fd ["row", "first", "letter"] spNextPlace := by
  refine F.ok scNextPlace (fun vs H Q E h => ?_) (fun cdv A outer s H vs Q E hr h => ?_)
  · obtain ⟨p, r, a, l, rfl, _⟩ := h
    rfl
  · obtain ⟨p, r, a, l, rfl, hp, hl, ha, k1, k2⟩ := h
    refine ⟨_, (pss_cons (ps_for PassesOwn.never rfl (pi_range2 (by rfl) T.b_range (pa_cons (pv 1) (pa_cons (pe_callB call_len_seq (by rfl) T.b_len (by decide +kernel) (pa_cons (pv 0) pa_nil)) pa_nil))) (pg_name (i := 3) scNextPlace.nd rfl (Or.inl rfl))
      (pss_one (ps_if (pt_cmpR op_eq (pe_ix ix_tup (pv 0) (pv 3) (fun _ _ => rfl)) (pv 2) (nomark _)) (pss_one (ps_ret (pv 3))) pss_nil)))
    (pss_one (ps_ret pe_non))), ?_⟩
    refine ⟨_, rfl, _, rfl, p, _, rfl, .inr hp.sq, _, _, rfl, ⟨by omega, by omega, ?_, ?_⟩, for_range (lo := (a : Int)) (fun i σ H' => ∃ v, σ = [some (.ref p), some (.int a), some (.int l), v] ∧ H' = H ∧ ∀ j, a ≤ j → j < a + i → r[j]? ≠ some l)
      ⟨none, rfl, rfl, fun j h1 h2 => absurd h2 (by omega)⟩ ?_ ?_⟩
    · have : (0 : Int) ≤ ((r.map V.int).length : Int) := Int.natCast_nonneg _
      omega
    · rw [List.length_map]; omega
    · rintro i σ H' hi ⟨v, rfl, rfl, hn⟩
      rw [List.length_map] at hi
      have hlt : a + i < r.length := by omega
      refine ⟨_, rfl, _, rfl, p, _, _, _, rfl, rfl, hp.sq, at_of (j := a + i) (by omega) (map_at (List.getElem?_eq_getElem hlt)), ?_⟩
      refine ⟨_, rfl, rfl, _, rfl, ?_⟩
      refine ite2 (fun c => ?_) (fun c => ?_)
      · have e : r[a + i] = l := by simpa using c
        refine ⟨_, rfl, ?_⟩
        have := k1 (a + i) (by omega) (by rw [List.getElem?_eq_getElem hlt, e]) hn
        rw [Int.natCast_add] at this
        exact this
      · have e : r[a + i] ≠ l := by simpa using c
        refine ⟨_, rfl, rfl, fun j h1 h2 => ?_⟩
        by_cases q : j = a + i
        · rw [q, List.getElem?_eq_getElem hlt]
          exact fun z => e (Option.some.inj z)
        · exact hn j h1 (by omega)
    · rintro σ H' ⟨v, rfl, rfl, hn⟩
      rw [List.length_map] at hn
      refine k2 fun j h1 => ?_
      by_cases q : j < r.length
      · exact hn j h1 (by omega)
      · rw [List.getElem?_eq_none (by omega)]
        exact fun z => nomatch z
def spWayOf : Sp := fun vs H Q _ => ∃ (p q : Addr) (r o : List Int), vs = [.ref p, .ref q] ∧ RowAt H p r ∧ RowAt H q o ∧ r.length ≤ 1000 ∧ o.length ≤ 1000 ∧
  (thinB r o = true → ∀ a H', Same H H' → Q (.ref a) H') ∧ (thinB r o = false → ∀ H', Same H H' → Q .non H')
abbrev nWayOf : List Str := ["row", "out", "found", "place", "letter"]
theorem scWayOf : FnScope nWayOf ["row", "out"] (defScope sWayOf) := ⟨rfl, rfl, rfl, by decide +kernel, rfl, by decide +kernel, by decide +kernel⟩
theorem ok_WayOf {f : Addr} {fd : FuncData} (T : Txt K mg) (F : Fun K "way_of" "way_of" sWayOf f fd) : FnOk P w K mg base CX0 2 f fd ["row", "out"] spWayOf := by
  obtain ⟨fNextPlace, fdNextPlace, FNextPlace, mNextPlace, bNextPlace⟩ := T.nextPlace
  have GNextPlace := ok_NextPlace (P := P) (w := w) (base := base) T FNextPlace
  refine F.ok scWayOf (fun vs H Q E h => ?_) (fun cdv A outer s H vs Q E hr h => ?_)
  · obtain ⟨p, q, r, o, rfl, _⟩ := h
    rfl
  · obtain ⟨p, q, r, o, rfl, hp, hq, hlr, hlo, k1, k2⟩ := h
    refine ⟨_, (pss_cons (ps_set (i := 2) scWayOf.nd rfl (Or.inl rfl) (pe_lst pa_nil))
    (pss_cons (ps_set (i := 3) scWayOf.nd rfl (Or.inl rfl) pe_int)
    (pss_cons (ps_for PassesOwn.never rfl (pi_tup (pv 1)) (pg_name (i := 4) scWayOf.nd rfl (Or.inl rfl))
      (pss_cons (ps_set (i := 3) scWayOf.nd rfl (Or.inl rfl) (pe_call GNextPlace (hr.mono (by decide)) (by rfl) mNextPlace FNextPlace.kp bNextPlace .nil pass0 (pa_cons (pv 0) (pa_cons (pv 3) (pa_cons (pv 4) pa_nil)))))
    (pss_cons (ps_if (pt_cmpR op_isN (pv 3) pe_non (nomark _)) (pss_one (ps_ret pe_non)) pss_nil)
    (pss_one (ps_expr (pe_bm PySem.F.plainAttrs_list PySem.F.slot_list_append PySem.F.type_list_append mt_append (pv 2) (pa_cons (pv 3) pa_nil)))))))
    (pss_one (ps_ret (pe_callTy call_tuple_of (by rfl) T.b_tuple (by decide +kernel) (pa_cons (pv 2) pa_nil))))))), ?_⟩
    refine ⟨Nat.zero_le _, fun L hL => ?_⟩
    refine ⟨_, rfl, q, rfl, ⟨_, (RowAt.same hq (same_new hL)).sq⟩, for_tup (K := K) (a := q) (xs := o.map V.int) (fun i σ H' => ∃ (pl : Nat) (v : Option V) (xs : List V), σ = [some (.ref p), some (.ref q), some (.ref L), some (.int pl), v] ∧
      Same H H' ∧ H' L = some (.lst xs) ∧ xs.length = i ∧ pl ≤ r.length ∧ thinB r o = thinB (r.drop pl) (o.drop i))
      ⟨0, none, [], rfl, same_new hL, upd_same, rfl, Nat.zero_le _, rfl⟩ (fun i σ H' _ ⟨_, _, _, _, s1, _⟩ => (hq.same s1).sq) ?_ ?_⟩
    · rintro i y σ H' hy ⟨pl, v, xs, rfl, s1, hL1, hx, hpl, ht⟩
      obtain ⟨l, hl, rfl⟩ := at_map hy
      obtain ⟨hio, hil⟩ := List.getElem?_eq_some_iff.mp hl
      have hd : o.drop i = l :: o.drop (i + 1) := by rw [List.drop_eq_getElem_cons hio, hil]
      rw [hd] at ht
      refine ⟨_, rfl, _, rfl, _, rfl, p, r, pl, l, rfl, hp.same s1, hlr, hpl, fun q' h1 h2 h3 => ?_, fun h1 => ?_⟩
      · refine ⟨_, rfl, rfl, _, rfl, iteF ?_⟩
        refine ⟨_, rfl, .inl ⟨rfl, _, SqL.of hL1⟩, _, rfl, L, _, _, rfl, rfl, hL1, ?_, ?_⟩
        · rw [hx]; exact Nat.lt_of_lt_of_le hio (Nat.le_trans hlo (by decide))
        · refine ⟨q', _, _, rfl, same_upd s1 hL, upd_same, by simp [hx], ?_, ?_⟩
          · have := (List.getElem?_eq_some_iff.mp h2).1
            omega
          · rw [ht]; exact thin_next h2 h1 h3
      · refine ⟨_, rfl, rfl, _, rfl, iteT ?_⟩
        refine k2 ?_ H' s1
        rw [ht]; exact thin_nonext h1
    · rintro σ H' ⟨pl, v, xs, rfl, s1, hL1, hx, hpl, ht⟩
      rw [List.length_map] at ht
      rw [List.drop_length, thinB_nil] at ht
      exact ⟨_, rfl, L, _, rfl, .inl ⟨SqL.of hL1, fun a ha => k1 ht a _ (s1.trans (same_new ha))⟩⟩
def spIsThinning : Sp := fun vs H Q _ => ∃ (p q : Addr) (r o : List Int), vs = [.ref p, .ref q] ∧ RowAt H p r ∧ RowAt H q o ∧ Valid r ∧ Valid o ∧ ∀ H', Same H H' → Q (.bl (thinB r o)) H'
abbrev nIsThinning : List Str := ["row", "out"]
theorem scIsThinning : FnScope nIsThinning ["row", "out"] (defScope sIsThinning) := ⟨rfl, rfl, rfl, by decide +kernel, rfl, by decide +kernel, by decide +kernel⟩
theorem ok_IsThinning {f : Addr} {fd : FuncData} (T : Txt K mg) (F : Fun K "is_thinning" "is_thinning" sIsThinning f fd) : FnOk P w K mg base CX0 7 f fd ["row", "out"] spIsThinning := by
  obtain ⟨fCheckBoth, fdCheckBoth, FCheckBoth, mCheckBoth, bCheckBoth⟩ := T.checkBoth
  have GCheckBoth := ok_CheckBoth (P := P) (w := w) (base := base) T FCheckBoth
  obtain ⟨fWayOf, fdWayOf, FWayOf, mWayOf, bWayOf⟩ := T.wayOf
  have GWayOf := ok_WayOf (P := P) (w := w) (base := base) T FWayOf
  refine F.ok scIsThinning (fun vs H Q E h => ?_) (fun cdv A outer s H vs Q E hr h => ?_)
  · obtain ⟨p, q, r, o, rfl, _⟩ := h
    rfl
  · obtain ⟨p, q, r, o, rfl, hp, hq, hv, hu, k⟩ := h
    refine ⟨_, (pss_cons (ps_expr (pe_call GCheckBoth (hr.mono (by decide)) (by rfl) mCheckBoth FCheckBoth.kp bCheckBoth .nil pass0 (pa_cons (pv 0) (pa_cons (pv 1) pa_nil))))
    (pss_one (ps_ret (pe_cmpR op_notN (pe_call GWayOf (hr.mono (by decide)) (by rfl) mWayOf FWayOf.kp bWayOf .nil pass0 (pa_cons (pv 0) (pa_cons (pv 1) pa_nil))) pe_non (nomark _))))), ?_⟩
    refine ⟨_, rfl, _, rfl, p, q, r, o, rfl, hp, hq, hv, hu, fun H1 s1 => ?_⟩
    refine ⟨_, rfl, _, rfl, p, q, r, o, rfl, hp.same s1, hq.same s1, hv.2.1, hu.2.1, fun ht a H2 s2 => ?_, fun ht H2 s2 => ?_⟩
    · have := k H2 (s1.trans s2)
      rw [ht] at this
      exact ⟨rfl, this⟩
    · have := k H2 (s1.trans s2)
      rw [ht] at this
      exact ⟨rfl, this⟩
end
end K17
namespace K17
open PySem L2
/-! ### slices and sums of tuples, whichever way the object goes -/
theorem slA {K : PySem.W.Frag} {lo hi : Option Int} {H : Hp} {Q : VK} {a : Addr} {xs : List V} (h : H a = some (.tup xs)) (k : ∀ q H', Same H H' → H' q = some (.tup (cutV xs lo hi)) → Q (.ref q) H') : rSlA K (.ref a) lo hi H Q := by
  refine ⟨a, xs, rfl, SqT.of h, fun w => k a H (Same.refl _) ?_, fun _ p hp => k p _ (same_new hp) upd_same⟩
  rw [h]
  unfold cutV
  rw [w.1, w.2]
  simp
theorem catA {K : PySem.W.Frag} {H : Hp} {Q : VK} {a b : Addr} {xs ys : List V} (h : H a = some (.tup xs)) (h2 : H b = some (.tup ys)) (hz : xs.length + ys.length ≤ sizeLine)
    (k : ∀ q H', Same H H' → H' q = some (.tup (xs ++ ys)) → Q (.ref q) H') : rCatA K (.ref a) (.ref b) H Q := by
  refine ⟨a, b, xs, ys, rfl, rfl, SqT.of h, SqT.of h2, hz, fun e => k b H (Same.refl _) ?_, fun _ e => k a H (Same.refl _) ?_, fun _ _ p hp => k p _ (same_new hp) upd_same⟩
  · rw [e]; exact h2
  · rw [e, List.append_nil]; exact h
theorem cut_to (r : List Int) {a : Nat} (h : a ≤ r.length) : cutV (r.map V.int) none (some (a : Int)) = (r.take a).map V.int := by
  unfold cutV
  rw [HT.sIx_none, HT.sIx_nat, List.length_map, Nat.min_eq_left h, Nat.sub_zero, List.drop_zero, List.map_take]
theorem cut_mid (r : List Int) {a b : Nat} (h : a ≤ r.length) (h2 : b ≤ r.length) : cutV (r.map V.int) (some (a : Int)) (some (b : Int)) = ((r.drop a).take (b - a)).map V.int := by
  unfold cutV
  rw [HT.sIx_nat, HT.sIx_nat, List.length_map, Nat.min_eq_left h, Nat.min_eq_left h2, List.map_take, List.map_drop]
theorem cut_from (r : List Int) {a : Nat} (h : a ≤ r.length) : cutV (r.map V.int) (some (a : Int)) none = (r.drop a).map V.int := by
  unfold cutV
  rw [HT.sIx_nat, HT.sIx_none, List.length_map, Nat.min_eq_left h, ← List.map_drop]
  rw [List.take_of_length_le (by rw [List.length_map, List.length_drop]; exact Nat.le_refl _)]
/-! ### all exchanges, in order -/
def exsB (n a b : Nat) (k : Nat) : List (Nat × Nat × Nat) := (List.range k).map fun k => (a, b, b + 1 + k)
def exsA (n a : Nat) (j : Nat) : List (Nat × Nat × Nat) := (List.range j).flatMap fun j => exsB n a (a + 1 + j) (n - (a + 1 + j))
def exsL (n m : Nat) : List (Nat × Nat × Nat) := (List.range m).flatMap fun a => exsA n a (n - (a + 1))
theorem exsB_succ (n a b k : Nat) : exsB n a b (k + 1) = exsB n a b k ++ [(a, b, b + 1 + k)] := by simp [exsB, List.range_succ]
theorem exsA_succ (n a j : Nat) : exsA n a (j + 1) = exsA n a j ++ exsB n a (a + 1 + j) (n - (a + 1 + j)) := by simp [exsA, List.range_succ]
theorem exsL_succ (n m : Nat) : exsL n (m + 1) = exsL n m ++ exsA n m (n - (m + 1)) := by simp [exsL, List.range_succ]
theorem mem_exsL {n m a b c : Nat} (hm : m = n ∨ m = n - 1) : (a, b, c) ∈ exsL n m ↔ a < b ∧ b < c ∧ c ≤ n := by
  unfold exsL exsA exsB
  simp only [List.mem_flatMap, List.mem_map, List.mem_range, Prod.mk.injEq]
  constructor
  · rintro ⟨x, hx, y, hy, z, hz, rfl, rfl, rfl⟩
    omega
  · rintro ⟨h1, h2, h3⟩
    exact ⟨a, by omega, b - (a + 1), by omega, c - (b + 1), by omega, rfl, by omega, by omega⟩
theorem ex_mk {H : Hp} {p : Addr} {a b c : Nat} {x y z : Int} (h : H p = some (.tup [.int x, .int y, .int z])) (hx : x = a) (hy : y = b) (hz : z = c) : H p = some (exO (a, b, c)) := by
  subst hx hy hz; exact h
/-- what the list of all exchanges is -/
def AllEx (n : Nat) (es : List (Nat × Nat × Nat)) : Prop := ∀ a b c, (a, b, c) ∈ es ↔ a < b ∧ b < c ∧ c ≤ n
section
variable {P : Program} {w : World} {K : PySem.W.Frag} {mg : Str → Option Value} {base : Heap}
def spIsExchange : Sp := fun vs H Q _ => ∃ (p : Addr) (a b c n : Int), vs = [.ref p, .int n] ∧ H p = some (.tup [.int a, .int b, .int c]) ∧ 0 ≤ a ∧ a < b ∧ b < c ∧ c ≤ n ∧ Q (.bl true) H
abbrev nIsExchange : List Str := ["thing", "lanes"]
theorem scIsExchange : FnScope nIsExchange ["thing", "lanes"] (defScope sIsExchange) := ⟨rfl, rfl, rfl, by decide +kernel, rfl, by decide +kernel, by decide +kernel⟩
theorem bl_true {c : Prop} [Decidable c] (h : c) : V.bl (decide c) = V.bl true := congrArg V.bl (decide_eq_true h)
theorem ok_IsExchange {f : Addr} {fd : FuncData} (T : Txt K mg) (F : Fun K "is_exchange" "is_exchange" sIsExchange f fd) : FnOk P w K mg base CX0 1 f fd ["thing", "lanes"] spIsExchange := by
  refine F.ok scIsExchange (fun vs H Q E h => ?_) (fun cdv A outer s H vs Q E hr h => ?_)
  · obtain ⟨p, a, b, c, n, rfl, _⟩ := h
    rfl
  · obtain ⟨p, a, b, c, n, rfl, hp, h1, h2, h3, h4, k⟩ := h
    refine ⟨_, (pss_one (ps_ret (pe_chain4 op_le op_lt op_lt op_le pe_int (pe_ix ix_tup (pv 0) pe_int (fun _ _ => rfl)) (pe_ix ix_tup (pv 0) pe_int (fun _ _ => rfl)) (pe_ix ix_tup (pv 0) pe_int (fun _ _ => rfl)) (pv 1)))), ?_⟩
    refine ⟨_, rfl, p, _, _, _, rfl, rfl, SqT.of hp, at_of (j := 0) rfl rfl, ?_⟩
    refine ⟨_, _, rfl, rfl, true, bl_true h1, iteT ?_⟩
    refine ⟨_, rfl, p, _, _, _, rfl, rfl, SqT.of hp, at_of (j := 1) rfl rfl, ?_⟩
    refine ⟨_, _, rfl, rfl, true, bl_true h2, iteT ?_⟩
    refine ⟨_, rfl, p, _, _, _, rfl, rfl, SqT.of hp, at_of (j := 2) rfl rfl, ?_⟩
    refine ⟨_, _, rfl, rfl, true, bl_true h3, iteT ?_⟩
    refine ⟨_, rfl, _, _, rfl, rfl, ?_⟩
    rw [← bl_true h4] at k
    exact k
def spExchangedBy : Sp := fun vs H Q _ => ∃ (p : Addr) (r : List Int) (a b c : Nat), vs = [.ref p, .int a, .int b, .int c] ∧ RowAt H p r ∧ r.length ≤ 1000 ∧ a < b ∧ b < c ∧ c ≤ r.length ∧
  ∀ q H', Same H H' → RowAt H' q (ex r a b c) → Q (.ref q) H'
abbrev nExchangedBy : List Str := ["row", "a", "b", "c"]
theorem scExchangedBy : FnScope nExchangedBy ["row", "a", "b", "c"] (defScope sExchangedBy) := ⟨rfl, rfl, rfl, by decide +kernel, rfl, by decide +kernel, by decide +kernel⟩
theorem ok_ExchangedBy {f : Addr} {fd : FuncData} (T : Txt K mg) (F : Fun K "exchanged_by" "exchanged_by" sExchangedBy f fd) : FnOk P w K mg base CX0 1 f fd ["row", "a", "b", "c"] spExchangedBy := by
  refine F.ok scExchangedBy (fun vs H Q E h => ?_) (fun cdv A outer s H vs Q E hr h => ?_)
  · obtain ⟨p, r, a, b, c, rfl, _⟩ := h
    rfl
  · obtain ⟨p, r, a, b, c, rfl, hp, hl, h1, h2, h3, k⟩ := h
    have z : ∀ u v : List Int, u.length ≤ 4000 → v.length ≤ 4000 → (u.map V.int).length + (v.map V.int).length ≤ sizeLine := fun u v hu hv => by
      rw [List.length_map, List.length_map, sizeLine_eq]; omega
    refine ⟨_, (pss_one (ps_ret (pe_op op_catA (pe_op op_catA (pe_op op_catA (pe_slice sl_tupA (pv 0) po_none (po_some (pv 1))) (pe_slice sl_tupA (pv 0) (po_some (pv 2)) (po_some (pv 3)))) (pe_slice sl_tupA (pv 0) (po_some (pv 1)) (po_some (pv 2)))) (pe_slice sl_tupA (pv 0) (po_some (pv 3)) po_none)))), ?_⟩
    refine ⟨_, rfl, _, rfl, _, rfl, slA hp fun q1 H1 s1 e1 => ?_⟩
    rw [cut_to r (by omega)] at e1
    refine ⟨_, rfl, ⟨_, rfl, _, rfl, ⟨_, rfl, _, rfl, slA (hp.same s1) fun q2 H2 s2 e2 => ?_⟩⟩⟩
    rw [cut_mid r (by omega) (by omega)] at e2
    refine catA (s2 _ _ e1) e2 (z _ _ (by simp; omega) (by simp; omega)) fun q3 H3 s3 e3 => ?_
    rw [← List.map_append] at e3
    refine ⟨_, rfl, ⟨_, rfl, _, rfl, ⟨_, rfl, _, rfl, slA (((hp.same s1).same s2).same s3) fun q4 H4 s4 e4 => ?_⟩⟩⟩
    rw [cut_mid r (by omega) (by omega)] at e4
    refine catA (s4 _ _ e3) e4 (z _ _ (by simp; omega) (by simp; omega)) fun q5 H5 s5 e5 => ?_
    rw [← List.map_append] at e5
    refine ⟨_, rfl, _, rfl, _, rfl, ?_⟩
    unfold tNoPart
    show rSlA K (.ref p) (some (c : Int)) none H5 _
    refine slA (((((hp.same s1).same s2).same s3).same s4).same s5) fun q6 H6 s6 e6 => ?_
    rw [cut_from r (by omega)] at e6
    refine catA (s6 _ _ e5) e6 (z _ _ (by simp; omega) (by simp; omega)) fun q7 H7 s7 e7 => ?_
    rw [← List.map_append] at e7
    exact k q7 H7 ((((((s1.trans s2).trans s3).trans s4).trans s5).trans s6).trans s7) e7
def spLExchanged : Sp := fun vs H Q _ => ∃ (p : Addr) (r : List Int) (a b c : Nat), vs = [.ref p, .int a, .int b, .int c] ∧ RowAt H p r ∧ r.length ≤ 1000 ∧ a < b ∧ b < c ∧ c ≤ r.length ∧
  ∀ q H', Same H H' → RowAt H' q (ex r a b c) → Q (.ref q) H'
abbrev nLExchanged : List Str := ["_law_row_here", "_law_a", "_law_b", "_law_c"]
theorem scLExchanged : FnScope nLExchanged ["_law_row_here", "_law_a", "_law_b", "_law_c"] (defScope sLExchanged) := ⟨rfl, rfl, rfl, by decide +kernel, rfl, by decide +kernel, by decide +kernel⟩
theorem ok_LExchanged {f : Addr} {fd : FuncData} (T : Txt K mg) (F : Fun K "_law_exchanged" "_law_exchanged" sLExchanged f fd) : FnOk P w K mg base CX0 1 f fd ["_law_row_here", "_law_a", "_law_b", "_law_c"] spLExchanged := by
  refine F.ok scLExchanged (fun vs H Q E h => ?_) (fun cdv A outer s H vs Q E hr h => ?_)
  · obtain ⟨p, r, a, b, c, rfl, _⟩ := h
    rfl
  · obtain ⟨p, r, a, b, c, rfl, hp, hl, h1, h2, h3, k⟩ := h
    have z : ∀ u v : List Int, u.length ≤ 4000 → v.length ≤ 4000 → (u.map V.int).length + (v.map V.int).length ≤ sizeLine := fun u v hu hv => by
      rw [List.length_map, List.length_map, sizeLine_eq]; omega
    refine ⟨_, (pss_one (ps_ret (pe_op op_catA (pe_op op_catA (pe_op op_catA (pe_slice sl_tupA (pv 0) po_none (po_some (pv 1))) (pe_slice sl_tupA (pv 0) (po_some (pv 2)) (po_some (pv 3)))) (pe_slice sl_tupA (pv 0) (po_some (pv 1)) (po_some (pv 2)))) (pe_slice sl_tupA (pv 0) (po_some (pv 3)) po_none)))), ?_⟩
    refine ⟨_, rfl, _, rfl, _, rfl, slA hp fun q1 H1 s1 e1 => ?_⟩
    rw [cut_to r (by omega)] at e1
    refine ⟨_, rfl, ⟨_, rfl, _, rfl, ⟨_, rfl, _, rfl, slA (hp.same s1) fun q2 H2 s2 e2 => ?_⟩⟩⟩
    rw [cut_mid r (by omega) (by omega)] at e2
    refine catA (s2 _ _ e1) e2 (z _ _ (by simp; omega) (by simp; omega)) fun q3 H3 s3 e3 => ?_
    rw [← List.map_append] at e3
    refine ⟨_, rfl, ⟨_, rfl, _, rfl, ⟨_, rfl, _, rfl, slA (((hp.same s1).same s2).same s3) fun q4 H4 s4 e4 => ?_⟩⟩⟩
    rw [cut_mid r (by omega) (by omega)] at e4
    refine catA (s4 _ _ e3) e4 (z _ _ (by simp; omega) (by simp; omega)) fun q5 H5 s5 e5 => ?_
    rw [← List.map_append] at e5
    refine ⟨_, rfl, _, rfl, _, rfl, ?_⟩
    unfold tNoPart
    show rSlA K (.ref p) (some (c : Int)) none H5 _
    refine slA (((((hp.same s1).same s2).same s3).same s4).same s5) fun q6 H6 s6 e6 => ?_
    rw [cut_from r (by omega)] at e6
    refine catA (s6 _ _ e5) e6 (z _ _ (by simp; omega) (by simp; omega)) fun q7 H7 s7 e7 => ?_
    rw [← List.map_append] at e7
    exact k q7 H7 ((((((s1.trans s2).trans s3).trans s4).trans s5).trans s6).trans s7) e7
def spAllExchanges : Sp := fun vs H Q _ => ∃ n : Nat, vs = [.int n] ∧ 1 ≤ n ∧ n ≤ 9 ∧
  ∀ l bs es H', Same H H' → H l = none → H' l = some (.lst (bs.map V.ref)) → Exs H' bs es → bs.length ≤ 1000 → AllEx n es → Q (.ref l) H'
abbrev nAllExchanges : List Str := ["lanes", "found", "a", "b", "c"]
theorem scAllExchanges : FnScope nAllExchanges ["lanes"] (defScope sAllExchanges) := ⟨rfl, rfl, rfl, by decide +kernel, rfl, by decide +kernel, by decide +kernel⟩
theorem ok_AllExchanges {f : Addr} {fd : FuncData} (T : Txt K mg) (F : Fun K "all_exchanges" "all_exchanges" sAllExchanges f fd) : FnOk P w K mg base CX0 1 f fd ["lanes"] spAllExchanges := by
  refine F.ok scAllExchanges (fun vs H Q E h => ?_) (fun cdv A outer s H vs Q E hr h => ?_)
  · obtain ⟨n, rfl, _⟩ := h
    rfl
  · obtain ⟨n, rfl, hn1, hn9, k⟩ := h
    refine ⟨_, (pss_cons (ps_set (i := 1) scAllExchanges.nd rfl (Or.inl rfl) (pe_lst pa_nil))
    (pss_cons (ps_for PassesOwn.never rfl (pi_range1 (by rfl) T.b_range (pa_cons (pe_op op_sub (pv 0) pe_int) pa_nil)) (pg_name (i := 2) scAllExchanges.nd rfl (Or.inr rfl))
      (pss_one (ps_for PassesOwn.never rfl (pi_range2 (by rfl) T.b_range (pa_cons (pe_op op_add (pv 2) pe_int) (pa_cons (pv 0) pa_nil))) (pg_name (i := 3) scAllExchanges.nd rfl (Or.inr rfl))
      (pss_one (ps_expr (pe_bm PySem.F.plainAttrs_list PySem.F.slot_list_extend PySem.F.type_list_extend mt_extend (pv 1) (pa_cons (pe_lc (own := [("c", 4)]) (g := gName 4) (tt := tYes) rfl scAllExchanges.nd (pi_range2 (by rfl) T.b_range (pa_cons (pe_op op_add (pv 3) pe_int) (pa_cons (pe_op op_add (pv 0) pe_int) pa_nil))) (blkOk_by (N := nAllExchanges) (sc := defScope sAllExchanges) (by decide +kernel)) (fun _ _ _ _ _ => (pg_name (i := 4) scAllExchanges.nd rfl (Or.inl rfl))) (fun _ _ _ _ _ => pts_nil) (fun _ _ _ _ _ => (pe_tup (pa_cons (pv 2) (pa_cons (pv 3) (pa_cons (pv 4) pa_nil)))))) pa_nil)))))))
    (pss_one (ps_ret (pv 1))))), ?_⟩
    refine ⟨Nat.zero_le _, fun L hL => ?_⟩
    refine ⟨_, rfl, _, _, rfl, rfl, _, rfl, by omega, by omega, for_range (fun i σ H' => ∃ (va vb vc : Option V) (bs : List Addr), σ = [some (.int n), some (.ref L), va, vb, vc] ∧
      Same H H' ∧ H' L = some (.lst (bs.map V.ref)) ∧ Exs H' bs (exsL n i) ∧ bs.length ≤ i * 100)
      ⟨none, none, none, [], rfl, same_new hL, upd_same, .nil, Nat.le_refl _⟩ ?_ ?_⟩
    · rintro i σ H1 hi ⟨va, vb, vc, bs, rfl, s1, hL1, hx, hb⟩
      have hin : i < n := by omega
      refine ⟨_, rfl, _, _, rfl, rfl, _, rfl, _, _, rfl, ⟨by omega, by omega, by omega, by omega⟩, for_range (fun j σ H' => ∃ (vb vc : Option V) (bs : List Addr), σ = [some (.int n), some (.ref L), some (.int (0 + (i : Int))), vb, vc] ∧
        Same H H' ∧ H' L = some (.lst (bs.map V.ref)) ∧ Exs H' bs (exsL n i ++ exsA n i j) ∧ bs.length ≤ i * 100 + j * 10)
        ⟨vb, vc, bs, rfl, s1, hL1, by rw [show exsA n i 0 = [] from rfl, List.append_nil]; exact hx, by omega⟩ ?_ ?_⟩
      · rintro j σ H2 hj ⟨vb, vc, bs, rfl, s2, hL2, hx, hb⟩
        have hj' : i + 1 + j < n := by omega
        refine ⟨_, rfl, .inl ⟨rfl, _, SqL.of hL2⟩, ?_⟩
        refine ⟨_, rfl, _, _, rfl, rfl, _, rfl, _, _, rfl, rfl, _, _, rfl, ⟨by omega, by omega, by omega, by omega⟩, fun D hD => lc_range (fun m H' => ∃ cs : List Addr, Same H2 H' ∧ H' D = some (.lst (cs.map V.ref)) ∧ Exs H' cs (exsB n i (i + 1 + j) m) ∧ cs.length = m)
          ⟨[], same_new hD, upd_same, .nil, rfl⟩ ?_ ?_⟩
        · rintro m H3 hm ⟨cs, s3, hD3, hy, hc⟩
          refine ⟨rfl, ?_⟩
          refine ⟨_, rfl, _, rfl, _, rfl, (by show 3 ≤ sizeLine; decide), fun t ht => ⟨_, Eq.trans (upd_ne (ne_of_none hD3 ht)) hD3, by rw [List.length_map, hc]; exact Nat.lt_of_le_of_lt (by omega : m ≤ 1000) (by decide), ?_⟩⟩
          refine ⟨cs ++ [t], same_upd (s3.trans (same_new ht)) hD, by rw [upd_same, List.map_append]; rfl, ?_, by rw [List.length_append, hc]; rfl⟩
          rw [exsB_succ]
          refine (hy.ts ((ts_new ht).trans (ts_lst (Eq.trans (upd_ne (ne_of_none hD3 ht)) hD3)))).app (.cons ?_ .nil)
          refine ex_mk (x := 0 + (i : Int)) (y := 0 + (i : Int) + 1 + (j : Int)) (z := 0 + (i : Int) + 1 + (j : Int) + 1 + (m : Int)) ?_ (by omega) (by omega) (by omega)
          have ntD : t ≠ D := Ne.symm (ne_of_none hD3 ht)
          rw [upd_ne ntD, upd_same]
        · rintro H3 ⟨cs, s3, hD3, hy, hc⟩
          have e : ((n : Int) + 1 - (0 + (i : Int) + 1 + (j : Int) + 1)).toNat = n - (i + 1 + j) := by omega
          rw [e] at hy hc
          refine ⟨L, D, _, _, rfl, rfl, s3 _ _ hL2, hD3, ?_, ?_⟩
          · rw [List.length_map, List.length_map, hc, sizeLine_eq]; omega
          · refine ⟨_, _, bs ++ cs, rfl, same_upd (s2.trans s3) hL, by rw [upd_same, List.map_append], ?_, by rw [List.length_append, hc]; omega⟩
            rw [exsA_succ, ← List.append_assoc]
            exact (hx.ts ((Same.ts s3).trans (ts_lst (s3 _ _ hL2)))).app (hy.ts (ts_lst (s3 _ _ hL2)))
      · rintro σ H2 ⟨vb, vc, bs, rfl, s2, hL2, hx, hb⟩
        have e : ((n : Int) - (0 + (i : Int) + 1)).toNat = n - (i + 1) := by omega
        rw [e] at hx hb
        refine ⟨_, _, _, bs, rfl, s2, hL2, ?_, by omega⟩
        rw [exsL_succ]
        exact hx
    · rintro σ H1 ⟨va, vb, vc, bs, rfl, s1, hL1, hx, hb⟩
      refine ⟨_, rfl, k L bs _ H1 s1 hL hL1 hx (by omega) fun a b c => ?_⟩
      exact mem_exsL (by omega)
def spLExchanges : Sp := fun vs H Q _ => ∃ n : Nat, vs = [.int n] ∧ 1 ≤ n ∧ n ≤ 9 ∧
  ∀ l bs es H', Same H H' → H l = none → H' l = some (.lst (bs.map V.ref)) → Exs H' bs es → bs.length ≤ 1000 → AllEx n es → Q (.ref l) H'
abbrev nLExchanges : List Str := ["_law_lanes", "_law_found", "_law_a", "_law_b", "_law_c"]
theorem scLExchanges : FnScope nLExchanges ["_law_lanes"] (defScope sLExchanges) := ⟨rfl, rfl, rfl, by decide +kernel, rfl, by decide +kernel, by decide +kernel⟩
theorem ok_LExchanges {f : Addr} {fd : FuncData} (T : Txt K mg) (F : Fun K "_law_exchanges" "_law_exchanges" sLExchanges f fd) : FnOk P w K mg base CX0 1 f fd ["_law_lanes"] spLExchanges := by
  refine F.ok scLExchanges (fun vs H Q E h => ?_) (fun cdv A outer s H vs Q E hr h => ?_)
  · obtain ⟨n, rfl, _⟩ := h
    rfl
  · obtain ⟨n, rfl, hn1, hn9, k⟩ := h
    refine ⟨_, (pss_cons (ps_set (i := 1) scLExchanges.nd rfl (Or.inl rfl) (pe_lst pa_nil))
    (pss_cons (ps_for PassesOwn.never rfl (pi_range1 (by rfl) T.b_range (pa_cons (pv 0) pa_nil)) (pg_name (i := 2) scLExchanges.nd rfl (Or.inr rfl))
      (pss_one (ps_for PassesOwn.never rfl (pi_range2 (by rfl) T.b_range (pa_cons (pe_op op_add (pv 2) pe_int) (pa_cons (pv 0) pa_nil))) (pg_name (i := 3) scLExchanges.nd rfl (Or.inr rfl))
      (pss_one (ps_expr (pe_bm PySem.F.plainAttrs_list PySem.F.slot_list_extend PySem.F.type_list_extend mt_extend (pv 1) (pa_cons (pe_lc (own := [("_law_c", 4)]) (g := gName 4) (tt := tYes) rfl scLExchanges.nd (pi_range2 (by rfl) T.b_range (pa_cons (pe_op op_add (pv 3) pe_int) (pa_cons (pe_op op_add (pv 0) pe_int) pa_nil))) (blkOk_by (N := nLExchanges) (sc := defScope sLExchanges) (by decide +kernel)) (fun _ _ _ _ _ => (pg_name (i := 4) scLExchanges.nd rfl (Or.inl rfl))) (fun _ _ _ _ _ => pts_nil) (fun _ _ _ _ _ => (pe_tup (pa_cons (pv 2) (pa_cons (pv 3) (pa_cons (pv 4) pa_nil)))))) pa_nil)))))))
    (pss_one (ps_ret (pv 1))))), ?_⟩
    refine ⟨Nat.zero_le _, fun L hL => ?_⟩
    refine ⟨_, rfl, _, rfl, by omega, by omega, for_range (fun i σ H' => ∃ (va vb vc : Option V) (bs : List Addr), σ = [some (.int n), some (.ref L), va, vb, vc] ∧
      Same H H' ∧ H' L = some (.lst (bs.map V.ref)) ∧ Exs H' bs (exsL n i) ∧ bs.length ≤ i * 100)
      ⟨none, none, none, [], rfl, same_new hL, upd_same, .nil, Nat.le_refl _⟩ ?_ ?_⟩
    · rintro i σ H1 hi ⟨va, vb, vc, bs, rfl, s1, hL1, hx, hb⟩
      have hin : i < n := by omega
      refine ⟨_, rfl, _, _, rfl, rfl, _, rfl, _, _, rfl, ⟨by omega, by omega, by omega, by omega⟩, for_range (fun j σ H' => ∃ (vb vc : Option V) (bs : List Addr), σ = [some (.int n), some (.ref L), some (.int (0 + (i : Int))), vb, vc] ∧
        Same H H' ∧ H' L = some (.lst (bs.map V.ref)) ∧ Exs H' bs (exsL n i ++ exsA n i j) ∧ bs.length ≤ i * 100 + j * 10)
        ⟨vb, vc, bs, rfl, s1, hL1, by rw [show exsA n i 0 = [] from rfl, List.append_nil]; exact hx, by omega⟩ ?_ ?_⟩
      · rintro j σ H2 hj ⟨vb, vc, bs, rfl, s2, hL2, hx, hb⟩
        have hj' : i + 1 + j < n := by omega
        refine ⟨_, rfl, .inl ⟨rfl, _, SqL.of hL2⟩, ?_⟩
        refine ⟨_, rfl, _, _, rfl, rfl, _, rfl, _, _, rfl, rfl, _, _, rfl, ⟨by omega, by omega, by omega, by omega⟩, fun D hD => lc_range (fun m H' => ∃ cs : List Addr, Same H2 H' ∧ H' D = some (.lst (cs.map V.ref)) ∧ Exs H' cs (exsB n i (i + 1 + j) m) ∧ cs.length = m)
          ⟨[], same_new hD, upd_same, .nil, rfl⟩ ?_ ?_⟩
        · rintro m H3 hm ⟨cs, s3, hD3, hy, hc⟩
          refine ⟨rfl, ?_⟩
          refine ⟨_, rfl, _, rfl, _, rfl, (by show 3 ≤ sizeLine; decide), fun t ht => ⟨_, Eq.trans (upd_ne (ne_of_none hD3 ht)) hD3, by rw [List.length_map, hc]; exact Nat.lt_of_le_of_lt (by omega : m ≤ 1000) (by decide), ?_⟩⟩
          refine ⟨cs ++ [t], same_upd (s3.trans (same_new ht)) hD, by rw [upd_same, List.map_append]; rfl, ?_, by rw [List.length_append, hc]; rfl⟩
          rw [exsB_succ]
          refine (hy.ts ((ts_new ht).trans (ts_lst (Eq.trans (upd_ne (ne_of_none hD3 ht)) hD3)))).app (.cons ?_ .nil)
          refine ex_mk (x := 0 + (i : Int)) (y := 0 + (i : Int) + 1 + (j : Int)) (z := 0 + (i : Int) + 1 + (j : Int) + 1 + (m : Int)) ?_ (by omega) (by omega) (by omega)
          have ntD : t ≠ D := Ne.symm (ne_of_none hD3 ht)
          rw [upd_ne ntD, upd_same]
        · rintro H3 ⟨cs, s3, hD3, hy, hc⟩
          have e : ((n : Int) + 1 - (0 + (i : Int) + 1 + (j : Int) + 1)).toNat = n - (i + 1 + j) := by omega
          rw [e] at hy hc
          refine ⟨L, D, _, _, rfl, rfl, s3 _ _ hL2, hD3, ?_, ?_⟩
          · rw [List.length_map, List.length_map, hc, sizeLine_eq]; omega
          · refine ⟨_, _, bs ++ cs, rfl, same_upd (s2.trans s3) hL, by rw [upd_same, List.map_append], ?_, by rw [List.length_append, hc]; omega⟩
            rw [exsA_succ, ← List.append_assoc]
            exact (hx.ts ((Same.ts s3).trans (ts_lst (s3 _ _ hL2)))).app (hy.ts (ts_lst (s3 _ _ hL2)))
      · rintro σ H2 ⟨vb, vc, bs, rfl, s2, hL2, hx, hb⟩
        have e : ((n : Int) - (0 + (i : Int) + 1)).toNat = n - (i + 1) := by omega
        rw [e] at hx hb
        refine ⟨_, _, _, bs, rfl, s2, hL2, ?_, by omega⟩
        rw [exsL_succ]
        exact hx
    · rintro σ H1 ⟨va, vb, vc, bs, rfl, s1, hL1, hx, hb⟩
      refine ⟨_, rfl, k L bs _ H1 s1 hL hL1 hx (by omega) fun a b c => ?_⟩
      exact mem_exsL (by omega)
def spExchanged : Sp := fun vs H Q _ => ∃ (p : Addr) (r : List Int) (a b c : Nat), vs = [.ref p, .int a, .int b, .int c] ∧ RowAt H p r ∧ Valid r ∧ a < b ∧ b < c ∧ c ≤ r.length ∧
  ∀ q H', Same H H' → RowAt H' q (ex r a b c) → Q (.ref q) H'
abbrev nExchanged : List Str := ["row", "a", "b", "c"]
theorem scExchanged : FnScope nExchanged ["row", "a", "b", "c"] (defScope sExchanged) := ⟨rfl, rfl, rfl, by decide +kernel, rfl, by decide +kernel, by decide +kernel⟩
theorem ok_Exchanged {f : Addr} {fd : FuncData} (T : Txt K mg) (F : Fun K "exchanged" "exchanged" sExchanged f fd) : FnOk P w K mg base CX0 6 f fd ["row", "a", "b", "c"] spExchanged := by
  obtain ⟨fCheckRow, fdCheckRow, FCheckRow, mCheckRow, bCheckRow⟩ := T.checkRow
  have GCheckRow := ok_CheckRow (P := P) (w := w) (base := base) T FCheckRow
  obtain ⟨fIsIntegers, fdIsIntegers, FIsIntegers, mIsIntegers, bIsIntegers⟩ := T.isIntegers
  have GIsIntegers := ok_IsIntegers (P := P) (w := w) (base := base) T FIsIntegers
  obtain ⟨fIsExchange, fdIsExchange, FIsExchange, mIsExchange, bIsExchange⟩ := T.isExchange
  have GIsExchange := ok_IsExchange (P := P) (w := w) (base := base) T FIsExchange
  obtain ⟨fExchangedBy, fdExchangedBy, FExchangedBy, mExchangedBy, bExchangedBy⟩ := T.exchangedBy
  have GExchangedBy := ok_ExchangedBy (P := P) (w := w) (base := base) T FExchangedBy
  refine F.ok scExchanged (fun vs H Q E h => ?_) (fun cdv A outer s H vs Q E hr h => ?_)
  · obtain ⟨p, r, a, b, c, rfl, _⟩ := h
    rfl
  · obtain ⟨p, r, a, b, c, rfl, hp, hv, h1, h2, h3, k⟩ := h
    refine ⟨_, (pss_cons (ps_expr (pe_call GCheckRow (hr.mono (by decide)) (by rfl) mCheckRow FCheckRow.kp bCheckRow .nil pass0 (pa_cons (pv 0) pa_nil)))
    (pss_cons (ps_if (PW.pt (pw_or (pt_not (pt_val (pe_call GIsIntegers (hr.mono (by decide)) (by rfl) mIsIntegers FIsIntegers.kp bIsIntegers .nil pass0 (pa_cons (pe_tup (pa_cons (pv 1) (pa_cons (pv 2) (pa_cons (pv 3) pa_nil)))) (pa_cons pe_int pa_nil))))) (pw_or1 (pt_not (pt_val (pe_call GIsExchange (hr.mono (by decide)) (by rfl) mIsExchange FIsExchange.kp bIsExchange .nil pass0 (pa_cons (pe_tup (pa_cons (pv 1) (pa_cons (pv 2) (pa_cons (pv 3) pa_nil)))) (pa_cons (pe_callB call_len_seq (by rfl) T.b_len (by decide +kernel) (pa_cons (pv 0) pa_nil)) pa_nil)))))))) (pss_one ps_never) pss_nil)
    (pss_one (ps_ret (pe_call GExchangedBy (hr.mono (by decide)) (by rfl) mExchangedBy FExchangedBy.kp bExchangedBy .nil pass0 (pa_cons (pv 0) (pa_cons (pv 1) (pa_cons (pv 2) (pa_cons (pv 3) pa_nil))))))))), ?_⟩
    refine ⟨_, rfl, p, r, rfl, hp, hv, fun H1 s1 => ?_⟩
    refine ⟨_, rfl, _, rfl, _, rfl, (by show 3 ≤ sizeLine; decide), fun t ht => ?_⟩
    refine ⟨t, [(a : Int), (b : Int), (c : Int)], 3, rfl, upd_same, rfl, (by show 3 ≤ 1000; decide), fun H2 s2 => ⟨true, rfl, ?_⟩⟩
    refine iteF ?_
    refine ⟨_, rfl, _, rfl, _, rfl, (by show 3 ≤ sizeLine; decide), fun t2 ht2 => ?_⟩
    have s3 : Same H (upd H2 t2 (.tup [.int a, .int b, .int c])) := ((s1.trans (same_new ht)).trans s2).trans (same_new ht2)
    refine ⟨_, rfl, p, _, rfl, .inr (hp.same s3).sq, t2, a, b, c, (r.length : Int), ?_, upd_same, by omega, by omega, by omega, by omega, true, rfl, iteF ?_⟩
    · rw [List.length_map]
      rfl
    · refine ⟨_, rfl, _, rfl, _, rfl, _, rfl, p, r, a, b, c, rfl, hp.same s3, hv.2.1, h1, h2, h3, fun q H4 s4 e => k q H4 (s3.trans s4) e⟩
end
end K17
namespace K17
open PySem L2
/-! ### the hand: cells, the next cell, a large one's rest, the seed, how many draws -/
def handL (c : Addr) (i z sd ct : Int) : List V := [.ref c, .int i, .int z, .int sd, .int ct]
def Hand (H : Hp) (h c : Addr) : Prop := ∃ (cells : List Int) (i z sd ct : Int), H h = some (.lst (handL c i z sd ct)) ∧ H c = some (.lst (cells.map V.int)) ∧ 0 ≤ i
theorem cells_ne {H : Hp} {h c : Addr} {cells : List Int} {i z sd ct : Int} (h1 : H h = some (.lst (handL c i z sd ct))) (h2 : H c = some (.lst (cells.map V.int))) : c ≠ h := by
  refine ne_of h2 h1 fun e => ?_
  have e2 : cells.map V.int = handL c i z sd ct := HO.lst.inj e
  cases cells with
  | nil => cases e2
  | cons x r =>
    rw [List.map_cons] at e2
    injection e2 with e3
    cases e3
theorem Hand.lst {H : Hp} {h c : Addr} (q : Hand H h c) : ∃ xs, H h = some (.lst xs) := by
  obtain ⟨cells, i, z, sd, ct, h1, _⟩ := q
  exact ⟨_, h1⟩
theorem Hand.same {H H' : Hp} {h c : Addr} (q : Hand H h c) (s : Same H H') : Hand H' h c := by
  obtain ⟨cells, i, z, sd, ct, h1, h2, h3⟩ := q
  exact ⟨cells, i, z, sd, ct, s _ _ h1, s _ _ h2, h3⟩
theorem Hand.upd {H : Hp} {h c : Addr} (q : Hand H h c) {D : Addr} {o : HO} (n1 : D ≠ h) (n2 : D ≠ c) : Hand (upd H D o) h c := by
  obtain ⟨cells, i, z, sd, ct, h1, h2, h3⟩ := q
  exact ⟨cells, i, z, sd, ct, by rw [upd_ne n1.symm]; exact h1, by rw [upd_ne n2.symm]; exact h2, h3⟩
theorem Hand.new {H : Hp} {h c : Addr} (q : Hand H h c) {D : Addr} (n : H D = none) : D ≠ h ∧ D ≠ c := by
  obtain ⟨cells, i, z, sd, ct, h1, h2, h3⟩ := q
  exact ⟨Ne.symm (ne_of_none h1 n), Ne.symm (ne_of_none h2 n)⟩
theorem RowAt.hand {h c : Addr} {H H' : Hp} {p : Addr} {r : List Int} (q : RowAt H p r) (s : But h H H') (hh : Hand H h c) : RowAt H' p r := by
  obtain ⟨xs, e⟩ := hh.lst
  exact q.but s e
theorem But.tsH {h c : Addr} {H H' : Hp} (s : But h H H') (hh : Hand H h c) : TS H H' := by
  obtain ⟨xs, e⟩ := hh.lst
  exact s.ts e
theorem fdiv_mod_ok {x m : Int} (hm : 0 < m) : 0 ≤ x.fmod m ∧ x.fmod m < m := ⟨Int.fmod_nonneg_of_pos _ hm, Int.fmod_lt_of_pos _ hm⟩
section
variable {P : Program} {w : World} {K : PySem.W.Frag} {mg : Str → Option Value} {base : Heap}
def spHand (K : PySem.W.Frag) : Sp := fun vs H Q _ => ∃ (a : Addr) (ns : List Int), vs = [.ref a] ∧ SqL K H a (ns.map V.int) ∧ ns.length ≤ 63 ∧ ∀ h c H', Same H H' → Hand H' h c → Q (.ref h) H'
abbrev nHand : List Str := ["_law_script", "_law_cell", "_law_cells"]
theorem scHand : FnScope nHand ["_law_script"] (defScope sHand) := ⟨rfl, rfl, rfl, by decide +kernel, rfl, by decide +kernel, by decide +kernel⟩
theorem ok_Hand {f : Addr} {fd : FuncData} (T : Txt K mg) (F : Fun K "_law_hand" "_law_hand" sHand f fd) : FnOk P w K mg base CX0 1 f fd ["_law_script"] (spHand K) := by
  refine F.ok scHand (fun vs H Q E h => ?_) (fun cdv A outer s H vs Q E hr h => ?_)
  · obtain ⟨a, ns, rfl, _⟩ := h
    rfl
  · obtain ⟨a, ns, rfl, hS, hl, k⟩ := h
    refine ⟨_, (pss_cons (ps_setLc (i := 2) (own := [("_law_cell", 1)]) (g := gName 1) (tt := tYes) rfl scHand.nd rfl rfl (sw_true rfl rfl rfl (by decide +kernel)) (pi_list (pe_slice sl_list (pv 0) po_none (po_some pe_int))) (blkOk_by (N := nHand) (sc := defScope sHand) (by decide +kernel)) (fun _ _ _ _ _ => (pg_name (i := 1) scHand.nd rfl (Or.inl rfl))) (fun _ _ _ _ _ => pts_nil) (fun _ _ _ _ _ => (pe_callB call_abs (by rfl) T.b_abs (by decide +kernel) (pa_cons (pe_callTy call_int1 (by rfl) T.b_int (by decide +kernel) (pa_cons (pv 1) pa_nil)) pa_nil))))
    (pss_one (ps_ret (pe_lst (pa_cons (pv 2) (pa_cons pe_int (pa_cons pe_int (pa_cons (pe_op op_add pe_int (pe_callB call_len_seq (by rfl) T.b_len (by decide +kernel) (pa_cons (pv 2) pa_nil))) (pa_cons pe_int pa_nil))))))))), ?_⟩
    refine ⟨_, rfl, ?_⟩
    unfold tNoPart
    refine ⟨_, rfl, a, _, rfl, hS, fun b hb => ?_⟩
    have e0 : cutV (ns.map V.int) none (some 63) = ns.map V.int := by
      have := cut_to ns (a := ns.length) (Nat.le_refl _)
      unfold cutV
      rw [HT.sIx_none]
      have e : HT.sIx (ns.map V.int).length (ns.map V.int).length (some (63 : Int)) = ns.length := by
        rw [show (63 : Int) = ((63 : Nat) : Int) from rfl, HT.sIx_nat, List.length_map]
        omega
      rw [e, Nat.sub_zero, List.drop_zero]
      exact List.take_of_length_le (by rw [List.length_map]; exact Nat.le_refl _)
    rw [e0]
    have hS1 : (upd H b (.lst (ns.map V.int))) b = some (.lst (ns.map V.int)) := upd_same
    refine ⟨b, rfl, ⟨_, SqL.of hS1⟩, fun D hD => lc_list (K := K) (a := b) (xs := ns.map V.int) (fun i H' => ∃ cs : List Int, Same (upd H b (.lst (ns.map V.int))) H' ∧ H' D = some (.lst (cs.map V.int)) ∧ cs.length = i)
      ⟨[], same_new hD, upd_same, rfl⟩ (fun i H' _ ⟨_, q, _⟩ => SqL.of (q _ _ hS1)) ?_ ?_⟩
    · rintro i x H' hx ⟨cs, q1, q2, q3⟩
      obtain ⟨y, hy, rfl⟩ := at_map hx
      have hi := (List.getElem?_eq_some_iff.mp hy).1
      refine ⟨rfl, ?_⟩
      refine ⟨_, rfl, .inl ⟨y, rfl, y, rfl, _, q2, ?_, cs ++ [if y < 0 then -y else y], same_upd q1 hD, ?_, ?_⟩⟩
      · rw [List.length_map, q3, sizeLine_eq]; omega
      · rw [upd_same, List.map_append]; rfl
      · rw [List.length_append, q3]; rfl
    · rintro H' ⟨cs, q1, q2, q3⟩
      refine ⟨_, rfl, _, rfl, D, _, rfl, .inl (SqL.of q2), _, _, rfl, rfl, (by show 5 ≤ sizeLine; decide), fun h hh => ?_⟩
      have nDh : D ≠ h := ne_of_none q2 hh
      refine k h D _ (((same_new hb).trans q1).trans (same_new hh)) ?_
      · exact ⟨cs, 0, 0, _, 0, upd_same, by rw [upd_ne nDh]; exact q2, Int.le_refl _⟩
def spDraw : Sp := fun vs H Q _ => ∃ (h c : Addr) (m : Int), vs = [.ref h, .int m] ∧ Hand H h c ∧ 0 < m ∧ m < 1073741824 ∧ ∀ (d : Int) H', But h H H' → Hand H' h c → 0 ≤ d → d < m → Q (.int d) H'
abbrev nDraw : List Str := ["_law_hand_here", "_law_many", "_law_cell", "_law_digit", "_law_number_here"]
theorem scDraw : FnScope nDraw ["_law_hand_here", "_law_many"] (defScope sDraw) := ⟨rfl, rfl, rfl, by decide +kernel, rfl, by decide +kernel, by decide +kernel⟩
theorem ok_Draw {f : Addr} {fd : FuncData} (T : Txt K mg) (F : Fun K "_law_draw" "_law_draw" sDraw f fd) : FnOk P w K mg base CX0 1 f fd ["_law_hand_here", "_law_many"] spDraw := by
  refine F.ok scDraw (fun vs H Q E h => ?_) (fun cdv A outer s H vs Q E hr h => ?_)
  · obtain ⟨h, c, m, rfl, _⟩ := h
    rfl
  · obtain ⟨h, c, m, rfl, ⟨cells, i, z, sd, ct, h1, h2, h3⟩, hm0, hm1, k⟩ := h
    have nch : c ≠ h := cells_ne h1 h2
    refine ⟨_, (C8.pss_cut (ps_if (PW.pt (pw_and (pt_cmpR op_eq (pe_ix ix_list (pv 0) pe_int (fun _ _ => rfl)) pe_int (nomark _)) (pw_and1 (pt_cmpR op_lt (pe_ix ix_list (pv 0) pe_int (fun _ _ => rfl)) (pe_callB call_len_seq (by rfl) T.b_len (by decide +kernel) (pa_cons (pe_ix ix_list (pv 0) pe_int (fun _ _ => rfl)) pa_nil)) (nomark _))))) (pss_cons (ps_set (i := 2) scDraw.nd rfl (Or.inl rfl) (pe_ix ix_list (pe_ix ix_list (pv 0) pe_int (fun _ _ => rfl)) (pe_ix ix_list (pv 0) pe_int (fun _ _ => rfl)) (fun _ _ => rfl)))
    (pss_cons (ps_asg (pe_op op_add (pe_ix ix_list (pv 0) pe_int (fun _ _ => rfl)) pe_int) (pg_sub (pv 0) pe_int set_list))
    (pss_cons (ps_asg (pe_op op_modN (pe_callTy call_int1 (by rfl) T.b_int (by decide +kernel) (pa_cons (pe_op op_add (pe_op op_add (pe_op op_mul (pe_ix ix_list (pv 0) pe_int (fun _ _ => rfl)) pe_int) (pv 2)) pe_int) pa_nil)) pe_int) (pg_sub (pv 0) pe_int set_list))
    (pss_one (ps_if (pt_cmpR op_ge (pv 2) (pe_op op_pow pe_int pe_int) (nomark _)) (pss_one (ps_asg (pv 2) (pg_sub (pv 0) pe_int set_list))) pss_nil))))) pss_nil)
    (pss_cons (ps_if (pt_cmpR op_gt (pe_ix ix_list (pv 0) pe_int (fun _ _ => rfl)) pe_int (nomark _)) (pss_cons (ps_set (i := 3) scDraw.nd rfl (Or.inl rfl) (pe_op op_modN (pe_callTy call_int1 (by rfl) T.b_int (by decide +kernel) (pa_cons (pe_ix ix_list (pv 0) pe_int (fun _ _ => rfl)) pa_nil)) (pv 1)))
    (pss_cons (ps_asg (pe_op op_fdivN (pe_ix ix_list (pv 0) pe_int (fun _ _ => rfl)) (pv 1)) (pg_sub (pv 0) pe_int set_list))
    (pss_one (ps_ret (pv 3))))) pss_nil)
    (pss_cons (ps_asg (pe_op op_add (pe_ix ix_list (pv 0) pe_int (fun _ _ => rfl)) pe_int) (pg_sub (pv 0) pe_int set_list))
    (pss_cons (ps_set (i := 4) scDraw.nd rfl (Or.inl rfl) (pe_op op_modN (pe_callTy call_int1 (by rfl) T.b_int (by decide +kernel) (pa_cons (pe_op op_mul (pe_callTy call_int1 (by rfl) T.b_int (by decide +kernel) (pa_cons (pe_op op_add (pe_ix ix_list (pv 0) pe_int (fun _ _ => rfl)) (pe_op op_mul pe_int (pe_ix ix_list (pv 0) pe_int (fun _ _ => rfl)))) pa_nil)) pe_int) pa_nil)) pe_int))
    (pss_cons (ps_set (i := 4) scDraw.nd rfl (Or.inl rfl) (pe_op op_modN (pe_callTy call_int1 (by rfl) T.b_int (by decide +kernel) (pa_cons (pe_op op_mul (pv 4) (pe_op op_add (pe_op op_fdivN (pv 4) pe_int) pe_int)) pa_nil)) pe_int))
    (pss_cons (ps_set (i := 4) scDraw.nd rfl (Or.inl rfl) (pe_op op_modN (pe_callTy call_int1 (by rfl) T.b_int (by decide +kernel) (pa_cons (pe_op op_mul (pv 4) (pe_op op_add (pe_op op_fdivN (pv 4) pe_int) pe_int)) pa_nil)) pe_int))
    (pss_one (ps_ret (pe_op op_modN (pe_callTy call_int1 (by rfl) T.b_int (by decide +kernel) (pa_cons (pe_op op_fdivN (pv 4) pe_int) pa_nil)) (pv 1)))))))))), ?_⟩
    have g1 : ∀ {H1 : Hp} {c : Addr} {i z sd ct : Int} {xs : List V} {j : Nat} {v : V}, H1 h = some (.lst (handL c i z sd ct)) → (handL c i z sd ct)[j]? = some v → atI (handL c i z sd ct) (j : Int) = some v := fun _ e => atI_nat e
    -- the first if: behind it a hand again
    refine ⟨fun σ H1 => ∃ (i z sd ct : Int) (v : Option V), σ = [some (.ref h), some (.int m), v, none, none] ∧ But h H H1 ∧ H1 h = some (.lst (handL c i z sd ct)) ∧ H1 c = some (.lst (cells.map V.int)) ∧ 0 ≤ i, ?_, ?_⟩
    · refine ⟨_, rfl, h, _, _, _, rfl, rfl, SqL.of h1, at_of (j := 2) rfl rfl, ?_⟩
      refine ⟨rfl, _, rfl, ?_⟩
      refine ite2 (fun _ => ?_) (fun _ => ?_)
      rotate_left
      · exact iteF ⟨i, z, sd, ct, none, rfl, But.refl _ _, h1, h2, h3⟩
      refine ⟨_, rfl, h, _, _, _, rfl, rfl, SqL.of h1, at_of (j := 1) rfl rfl, ?_⟩
      refine ⟨_, rfl, h, _, _, _, rfl, rfl, SqL.of h1, at_of (j := 0) rfl rfl, ?_⟩
      refine ⟨c, _, rfl, .inl (SqL.of h2), ?_⟩
      refine ⟨_, _, rfl, rfl, _, rfl, ?_⟩
      rw [List.length_map]
      refine ite2 (fun lt => ?_) (fun _ => ?_)
      rotate_left
      · exact ⟨i, z, sd, ct, none, rfl, But.refl _ _, h1, h2, h3⟩
      have hlt : i < (cells.length : Int) := by simpa using lt
      obtain ⟨n, rfl⟩ : ∃ n : Nat, i = n := ⟨i.toNat, by omega⟩
      have hn : n < cells.length := by omega
      refine ⟨_, rfl, h, _, _, _, rfl, rfl, SqL.of h1, at_of (j := 0) rfl rfl, ?_⟩
      refine ⟨_, rfl, h, _, _, _, rfl, rfl, SqL.of h1, at_of (j := 1) rfl rfl, ?_⟩
      refine ⟨c, _, _, _, rfl, rfl, SqL.of h2, at_of (j := n) rfl (map_at (List.getElem?_eq_getElem hn)), ?_⟩
      -- one cell on
      refine ⟨_, rfl, h, _, _, _, rfl, rfl, SqL.of h1, at_of (j := 1) rfl rfl, ?_⟩
      refine ⟨_, _, rfl, rfl, ?_⟩
      refine ⟨_, rfl, h, _, _, 1, rfl, rfl, h1, rfl, ?_⟩
      -- the seed
      refine ⟨_, rfl, h, _, _, _, rfl, rfl, SqL.of upd_same, at_of (j := 3) rfl rfl, ?_⟩
      refine ⟨_, _, rfl, rfl, .inr ⟨by decide, by decide⟩, ?_⟩
      refine ⟨_, rfl, _, _, rfl, rfl, _, _, rfl, rfl, .inl ⟨_, rfl, ?_⟩⟩
      refine ⟨_, _, rfl, rfl, (by show (_ : Int) ≠ 0; decide), ?_⟩
      refine ⟨_, rfl, h, _, _, 3, rfl, rfl, upd_same, rfl, ?_⟩
      rw [upd_upd]
      -- a large cell is kept
      refine ⟨_, rfl, _, _, rfl, rfl, ⟨by decide, by decide, by decide⟩, ?_⟩
      refine ⟨_, _, rfl, rfl, _, rfl, ?_⟩
      refine ite2 (fun _ => ?_) (fun _ => ?_)
      · refine ⟨_, rfl, _, rfl, h, _, _, 2, rfl, rfl, upd_same, rfl, ?_⟩
        rw [upd_upd]
        exact ⟨_, _, _, _, _, rfl, but_upd, upd_same, by rw [upd_ne nch]; exact h2, by omega⟩
      · exact ⟨_, _, _, _, _, rfl, but_upd, upd_same, by rw [upd_ne nch]; exact h2, by omega⟩
    · rintro σ H1 ⟨i, z, sd, ct, v, rfl, s1, e1, e2, h3⟩
      clear h1 h2
      refine ⟨_, rfl, h, _, _, _, rfl, rfl, SqL.of e1, at_of (j := 2) rfl rfl, ?_⟩
      refine ⟨_, _, rfl, rfl, _, rfl, ?_⟩
      refine ite2 (fun _ => ?_) (fun _ => ?_)
      · refine ⟨_, rfl, h, _, _, _, rfl, rfl, SqL.of e1, at_of (j := 2) rfl rfl, .inl ⟨_, rfl, ?_⟩⟩
        refine ⟨_, rfl, _, _, rfl, rfl, by omega, ?_⟩
        refine ⟨_, rfl, h, _, _, _, rfl, rfl, SqL.of e1, at_of (j := 2) rfl rfl, ?_⟩
        refine ⟨_, rfl, _, _, rfl, rfl, ⟨by omega, by omega⟩, ?_⟩
        refine ⟨_, rfl, h, _, _, 2, rfl, rfl, e1, rfl, ?_⟩
        refine ⟨_, rfl, ?_⟩
        obtain ⟨d0, d1⟩ := fdiv_mod_ok (x := z) hm0
        exact k _ _ (s1.trans but_upd) ⟨cells, _, _, _, _, upd_same, by rw [upd_ne nch]; exact e2, h3⟩ d0 d1
      · refine ⟨_, rfl, h, _, _, _, rfl, rfl, SqL.of e1, at_of (j := 4) rfl rfl, ?_⟩
        refine ⟨_, _, rfl, rfl, ?_⟩
        refine ⟨_, rfl, h, _, _, 4, rfl, rfl, e1, rfl, ?_⟩
        refine ⟨_, rfl, h, _, _, _, rfl, rfl, SqL.of upd_same, at_of (j := 3) rfl rfl, ?_⟩
        refine ⟨_, rfl, h, _, _, _, rfl, rfl, SqL.of upd_same, at_of (j := 4) rfl rfl, ?_⟩
        refine ⟨_, _, rfl, rfl, .inl ⟨by decide, by decide⟩, ?_⟩
        refine ⟨_, _, rfl, rfl, .inl ⟨_, rfl, ?_⟩⟩
        refine ⟨_, _, rfl, rfl, .inr ⟨by decide, by decide⟩, .inl ⟨_, rfl, ?_⟩⟩
        refine ⟨_, _, rfl, rfl, (by show (_ : Int) ≠ 0; decide), ?_⟩
        have b1 := fdiv_mod_ok (x := (sd + 7919 * (ct + 1)) * 48271) (m := 2147483647) (by decide)
        refine ⟨_, rfl, _, rfl, _, _, rfl, rfl, ⟨by decide, by decide⟩, ?_⟩
        refine ⟨_, _, rfl, rfl, _, _, rfl, rfl, .inl ⟨by omega, by omega⟩, .inl ⟨_, rfl, ?_⟩⟩
        refine ⟨_, _, rfl, rfl, (by show (_ : Int) ≠ 0; decide), ?_⟩
        generalize (sd + 7919 * (ct + 1)) * 48271 = q0 at *
        have b2 := fdiv_mod_ok (x := q0.fmod 2147483647 * ((q0.fmod 2147483647).fdiv 1009 + 69621)) (m := 2147483647) (by decide)
        refine ⟨_, rfl, _, rfl, _, _, rfl, rfl, ⟨by decide, by decide⟩, ?_⟩
        refine ⟨_, _, rfl, rfl, _, _, rfl, rfl, .inl ⟨by omega, by omega⟩, .inl ⟨_, rfl, ?_⟩⟩
        refine ⟨_, _, rfl, rfl, (by show (_ : Int) ≠ 0; decide), ?_⟩
        refine ⟨_, rfl, _, _, rfl, rfl, ⟨by decide, by decide⟩, .inl ⟨_, rfl, ?_⟩⟩
        refine ⟨_, rfl, _, _, rfl, rfl, by omega, ?_⟩
        refine k _ _ (s1.trans but_upd) ⟨cells, _, _, _, _, upd_same, by rw [upd_ne nch]; exact e2, h3⟩ (fdiv_mod_ok hm0).1 (fdiv_mod_ok hm0).2
end
end K17
namespace K17
open PySem L2
theorem kit_no {K : PySem.W.Frag} {t : String} (h1 : kitB t "tuple" = some false) (h2 : kitB t "list" = some false) : PySem.W.kitAny K (.type t) [.type "tuple", .type "list"] = some false :=
  kitAny_cons (kit_ty h1) (fun _ => kitAny_cons (kit_ty h2) (fun _ => kitAny_nil) (fun z => nomatch z)) (fun z => nomatch z)
theorem But.sq {K : PySem.W.Frag} {h t : Addr} {H H' : Hp} {xs : List V} (s : But h H H') (n : t ≠ h) (q : SqL K H t xs) : SqL K H' t xs := by
  rcases q with (q | ⟨o, q⟩) | q
  · exact .inl (.inl (s _ _ n q))
  · exact .inl (.inr ⟨o, s _ _ n q⟩)
  · exact .inr q
theorem But.st {K : PySem.W.Frag} {h t : Addr} {H H' : Hp} {xs : List V} (s : But h H H') (n : t ≠ h) (q : SqT K H t xs) : SqT K H' t xs := by
  rcases q with (q | ⟨o, q⟩) | q
  · exact .inl (.inl (s _ _ n q))
  · exact .inl (.inr ⟨o, s _ _ n q⟩)
  · exact .inr q
/-! ### all rows of some letters -/
def rowsL (ls : List Int) : Nat → List (List Int)
  | 0 => [[]]
  | n + 1 => (rowsL ls n).flatMap fun r => ls.map fun x => r ++ [x]
theorem mem_rowsL {ls : List Int} : ∀ {n : Nat} {r : List Int}, r ∈ rowsL ls n ↔ r.length = n ∧ ∀ x ∈ r, x ∈ ls
  | 0, r => by
    unfold rowsL
    rw [List.mem_singleton]
    constructor
    · rintro rfl; exact ⟨rfl, fun x hx => nomatch hx⟩
    · rintro ⟨h, _⟩; exact List.length_eq_zero_iff.mp h
  | n + 1, r => by
    unfold rowsL
    simp only [List.mem_flatMap, List.mem_map]
    constructor
    · rintro ⟨u, hu, x, hx, rfl⟩
      obtain ⟨h1, h2⟩ := mem_rowsL.mp hu
      refine ⟨by simp [h1], fun y hy => ?_⟩
      rcases List.mem_append.mp hy with hy | hy
      · exact h2 y hy
      · rw [List.mem_singleton] at hy; rw [hy]; exact hx
    · rintro ⟨h1, h2⟩
      have ne : r ≠ [] := fun e => by rw [e] at h1; cases h1
      refine ⟨r.dropLast, mem_rowsL.mpr ⟨by rw [List.length_dropLast, h1]; rfl, fun x hx => h2 x (List.dropLast_subset r hx)⟩, r.getLast ne, h2 _ (List.getLast_mem ne), List.dropLast_concat_getLast ne⟩
theorem nodup_rowsL {ls : List Int} (h : ls.Nodup) : ∀ n, (rowsL ls n).Nodup
  | 0 => by simp [rowsL]
  | n + 1 => by
    have ih := nodup_rowsL h n
    show ((rowsL ls n).flatMap fun r => ls.map fun x => r ++ [x]).Nodup
    generalize rowsL ls n = l at ih ⊢
    induction l with
    | nil => exact List.nodup_nil
    | cons r l ihl =>
      obtain ⟨n1, n2⟩ := List.nodup_cons.mp ih
      rw [List.flatMap_cons, List.nodup_append]
      refine ⟨?_, ihl n2, fun a ha b hb e => ?_⟩
      · unfold List.Nodup
        rw [List.pairwise_map]
        exact List.Pairwise.imp (fun {x y} hne e => hne (by simpa using e)) h
      · subst e
        obtain ⟨x, _, rfl⟩ := List.mem_map.mp ha
        obtain ⟨u, hu, hm⟩ := List.mem_flatMap.mp hb
        obtain ⟨y, _, e⟩ := List.mem_map.mp hm
        have e2 : u = r := (List.append_inj' e rfl).1
        rw [e2] at hu
        exact n1 hu
theorem length_rowsL {ls : List Int} (h : ls.length ≤ 4) : ∀ n, (rowsL ls n).length ≤ 4 ^ n
  | 0 => by simp [rowsL]
  | n + 1 => by
    have ih := length_rowsL h n
    show ((rowsL ls n).flatMap fun r => ls.map fun x => r ++ [x]).length ≤ _
    have e : ∀ l : List (List Int), (l.flatMap fun r => ls.map fun x => r ++ [x]).length = l.length * ls.length := fun l => by
      induction l with
      | nil => simp
      | cons r l ihl => rw [List.flatMap_cons, List.length_append, ihl, List.length_map, List.length_cons, Nat.succ_mul, Nat.add_comm]
    rw [e, Nat.pow_succ]
    exact Nat.mul_le_mul ih h
section
variable {P : Program} {w : World} {K : PySem.W.Frag} {mg : Str → Option Value} {base : Heap}
def spSome (K : PySem.W.Frag) : Sp := fun vs H Q _ => ∃ (h c t : Addr) (xs : List V), vs = [.ref h, .ref t] ∧ Hand H h c ∧ t ≠ h ∧ (SqL K H t xs ∨ SqT K H t xs) ∧ 0 < xs.length ∧ xs.length ≤ 1000 ∧
  ∀ (i : Nat) (x : V) H', xs[i]? = some x → But h H H' → Hand H' h c → Q x H'
abbrev nSome : List Str := ["_law_hand_here", "_law_things"]
theorem scSome : FnScope nSome ["_law_hand_here", "_law_things"] (defScope sSome) := ⟨rfl, rfl, rfl, by decide +kernel, rfl, by decide +kernel, by decide +kernel⟩
theorem ok_Some {f : Addr} {fd : FuncData} (T : Txt K mg) (F : Fun K "_law_some" "_law_some" sSome f fd) : FnOk P w K mg base CX0 2 f fd ["_law_hand_here", "_law_things"] (spSome K) := by
  obtain ⟨fDraw, fdDraw, FDraw, mDraw, bDraw⟩ := T.draw
  have GDraw := ok_Draw (P := P) (w := w) (base := base) T FDraw
  refine F.ok scSome (fun vs H Q E h => ?_) (fun cdv A outer s H vs Q E hr h => ?_)
  · obtain ⟨h, c, t, xs, rfl, _⟩ := h
    rfl
  · obtain ⟨h, c, t, xs, rfl, hh, nth, hS, h0, h1, k⟩ := h
    refine ⟨_, (pss_one (ps_ret (pe_ix ix_seq (pv 1) (pe_call GDraw (hr.mono (by decide)) (by rfl) mDraw FDraw.kp bDraw .nil pass0 (pa_cons (pv 0) (pa_cons (pe_callB call_len_seq (by rfl) T.b_len (by decide +kernel) (pa_cons (pv 1) pa_nil)) pa_nil))) (fun _ _ => rfl)))), ?_⟩
    refine ⟨_, rfl, _, rfl, _, rfl, t, xs, rfl, hS, h, c, _, rfl, hh, by omega, by omega, fun d H1 b1 hh1 d0 d1 => ?_⟩
    obtain ⟨n, rfl⟩ : ∃ n : Nat, d = n := ⟨d.toNat, by omega⟩
    have hn : n < xs.length := by omega
    have e : xs[n]? = some xs[n] := List.getElem?_eq_getElem hn
    rcases hS with q | q
    · exact .inl ⟨t, xs, n, _, rfl, rfl, b1.sq nth q, atI_nat e, k n _ H1 e b1 hh1⟩
    · exact .inr (.inl ⟨t, xs, n, _, rfl, rfl, b1.st nth q, atI_nat e, k n _ H1 e b1 hh1⟩)
def spIs : Sp := fun vs H Q _ => ∃ x : V, vs = [x, x] ∧ (x = .non ∨ ∃ i : Int, x = .int i) ∧ ∀ H', Same H H' → Q (.bl true) H'
abbrev nIs : List Str := ["_law_told", "_law_due", "_law_one", "_law_two"]
theorem scIs : FnScope nIs ["_law_told", "_law_due"] (defScope sIs) := ⟨rfl, rfl, rfl, by decide +kernel, rfl, by decide +kernel, by decide +kernel⟩
theorem ok_Is {f : Addr} {fd : FuncData} (T : Txt K mg) (F : Fun K "_law_is" "_law_is" sIs f fd) : FnOk P w K mg base CX0 1 f fd ["_law_told", "_law_due"] spIs := by
  refine F.ok scIs (fun vs H Q E h => ?_) (fun cdv A outer s H vs Q E hr h => ?_)
  · obtain ⟨x, rfl, _⟩ := h
    rfl
  · obtain ⟨x, rfl, hx, k⟩ := h
    obtain ⟨t, ht, n1, n2, n3, sc⟩ : ∃ t : String, (∀ H : Hp, TyX K H x (.type t)) ∧ kitB t "tuple" = some false ∧ kitB t "list" = some false ∧ kitB t "bool" = some false ∧ scal x x = true := by
      rcases hx with rfl | ⟨i, rfl⟩
      · exact ⟨"NoneType", fun H => .base .non, by decide +kernel, by decide +kernel, by decide +kernel, rfl⟩
      · exact ⟨"int", fun H => .base (.int i), by decide +kernel, by decide +kernel, by decide +kernel, rfl⟩
    refine ⟨_, (pss_cons (ps_if (pt_val (pe_callB call_isiT (by rfl) T.b_isinstance (by decide +kernel) (pa_cons (pv 1) (pa_cons (pe_tup (pa_cons (pe_bltn (v := .ty "tuple") (by rfl) T.b_tuple (by decide +kernel) rfl) (pa_cons (pe_bltn (v := .ty "list") (by rfl) T.b_list (by decide +kernel) rfl) pa_nil))) pa_nil)))) pss_never pss_nil)
    (pss_cons (ps_if (pt_val (pe_callB call_isiT (by rfl) T.b_isinstance (by decide +kernel) (pa_cons (pv 0) (pa_cons (pe_tup (pa_cons (pe_bltn (v := .ty "tuple") (by rfl) T.b_tuple (by decide +kernel) rfl) (pa_cons (pe_bltn (v := .ty "list") (by rfl) T.b_list (by decide +kernel) rfl) pa_nil))) pa_nil)))) pss_never pss_nil)
    (pss_one (ps_ret (pe_and (pe_cmpR op_eq (pe_callB call_isi (by rfl) T.b_isinstance (by decide +kernel) (pa_cons (pv 0) (pa_cons (pe_bltn (v := .ty "bool") (by rfl) T.b_bool (by decide +kernel) rfl) pa_nil))) (pe_callB call_isi (by rfl) T.b_isinstance (by decide +kernel) (pa_cons (pv 1) (pa_cons (pe_bltn (v := .ty "bool") (by rfl) T.b_bool (by decide +kernel) rfl) pa_nil))) (nomark _)) (pe_one (pe_cmpR op_eq (pv 0) (pv 1) (nomark _)))))))), ?_⟩
    refine ⟨_, rfl, (by show 2 ≤ sizeLine; decide), fun p hp => ⟨x, p, _, _, _, false, rfl, upd_same, .cons (.ty _) (.cons (.ty _) .nil), ht _, kit_no n1 n2, false, rfl, iteF ?_⟩⟩
    refine ⟨_, rfl, (by show 2 ≤ sizeLine; decide), fun q hq => ⟨x, q, _, _, _, false, rfl, upd_same, .cons (.ty _) (.cons (.ty _) .nil), ht _, kit_no n1 n2, false, rfl, iteF ?_⟩⟩
    refine ⟨_, rfl, x, .ty "bool", _, _, false, rfl, .ty _, ht _, kit_ty n3, ?_⟩
    refine ⟨_, rfl, x, .ty "bool", _, _, false, rfl, .ty _, ht _, kit_ty n3, rfl, true, rfl, iteT ?_⟩
    refine ⟨_, rfl, _, rfl, sc, ?_⟩
    rw [decide_eq_true rfl]
    exact k _ ((same_new hp).trans (same_new hq))
def spWord : Sp := fun vs H Q _ => ∃ (p : Addr) (o : List Int), vs = [.ref p] ∧ RowAt H p o ∧ 1 ≤ o.length ∧ o.length ≤ 1000 ∧ ∀ q H', Same H H' → RowAt H' q (wordL o) → Q (.ref q) H'
abbrev nWord : List Str := ["_law_row_here", "_law_found", "_law_letter"]
theorem scWord : FnScope nWord ["_law_row_here"] (defScope sWord) := ⟨rfl, rfl, rfl, by decide +kernel, rfl, by decide +kernel, by decide +kernel⟩
theorem wfold_ne {o acc : List Int} (h : acc ≠ []) : o.foldl wstep acc ≠ [] := by
  induction o generalizing acc with
  | nil => exact h
  | cons l o ih =>
    rw [List.foldl_cons]
    refine ih ?_
    unfold wstep
    split
    · exact h
    · simp
theorem wfold_len (o : List Int) : ∀ acc : List Int, (o.foldl wstep acc).length ≤ acc.length + o.length := by
  induction o with
  | nil => intro acc; exact Nat.le_refl _
  | cons l o ih =>
    intro acc
    rw [List.foldl_cons]
    refine Nat.le_trans (ih _) ?_
    have : (wstep acc l).length ≤ acc.length + 1 := by
      unfold wstep
      split
      · omega
      · simp
    simp only [List.length_cons]
    omega
theorem take_fold {α β : Type} {g : β → α → β} {l : List α} {b : β} {i : Nat} {x : α} (h : l[i]? = some x) : (l.take (i + 1)).foldl g b = g ((l.take i).foldl g b) x := by
  rw [List.take_add_one, h, Option.toList_some, List.foldl_append]
  rfl
theorem ok_Word {f : Addr} {fd : FuncData} (T : Txt K mg) (F : Fun K "_law_word" "_law_word" sWord f fd) : FnOk P w K mg base CX0 1 f fd ["_law_row_here"] spWord := by
  refine F.ok scWord (fun vs H Q E h => ?_) (fun cdv A outer s H vs Q E hr h => ?_)
  · obtain ⟨p, o, rfl, _⟩ := h
    rfl
  · obtain ⟨p, o, rfl, hp, h0, h1, k⟩ := h
    refine ⟨_, (pss_cons (ps_set (i := 1) scWord.nd rfl (Or.inl rfl) (pe_lst (pa_cons (pe_ix ix_tup (pv 0) pe_int (fun _ _ => rfl)) pa_nil)))
    (pss_cons (ps_for PassesOwn.never rfl (pi_tup (pv 0)) (pg_name (i := 2) scWord.nd rfl (Or.inl rfl))
      (pss_one (ps_if (pt_cmpR op_ne (pv 2) (pe_ix ix_list (pv 1) (pe_un un_neg pe_int) (fun _ _ => rfl)) (nomark _)) (pss_one (ps_expr (pe_bm PySem.F.plainAttrs_list PySem.F.slot_list_append PySem.F.type_list_append mt_append (pv 1) (pa_cons (pv 2) pa_nil)))) pss_nil)))
    (pss_one (ps_ret (pe_callTy call_tuple_of (by rfl) T.b_tuple (by decide +kernel) (pa_cons (pv 1) pa_nil)))))), ?_⟩
    have hlt : 0 < o.length := h0
    have e0 : o[0]? = some o[0] := List.getElem?_eq_getElem hlt
    have e1 : o.take 1 = [o[0]] := by
      rw [List.take_one, List.head?_eq_getElem?, e0]; rfl
    refine ⟨_, rfl, p, _, _, _, rfl, rfl, hp.sq, at_of (j := 0) rfl (map_at e0), (by show 1 ≤ sizeLine; decide), fun L hL => ?_⟩
    have z : ∀ i, ((o.take i).foldl wstep (o.take 1)).length ≤ 1001 := fun i => by
      refine Nat.le_trans (wfold_len _ _) ?_
      rw [List.length_take, List.length_take]; omega
    refine ⟨_, rfl, p, rfl, ⟨_, (RowAt.same hp (same_new hL)).sq⟩, for_tup (K := K) (a := p) (xs := o.map V.int) (fun i σ H' => ∃ v, σ = [some (.ref p), some (.ref L), v] ∧ Same H H' ∧ H' L = some (.lst (((o.take i).foldl wstep (o.take 1)).map V.int)))
      ⟨none, rfl, same_new hL, by rw [upd_same, List.take_zero, List.foldl_nil, e1]; rfl⟩ (fun i σ H' _ ⟨_, _, s1, _⟩ => (hp.same s1).sq) ?_ ?_⟩
    · rintro i y σ H' hy ⟨v, rfl, s1, hL1⟩
      obtain ⟨l, hl, rfl⟩ := at_map hy
      have ne : (o.take i).foldl wstep (o.take 1) ≠ [] := wfold_ne (by rw [e1]; simp)
      have step := take_fold (g := wstep) (b := o.take 1) hl
      have zi := z i
      generalize (o.take i).foldl wstep (o.take 1) = acc at hL1 ne step zi
      have eg := List.dropLast_concat_getLast ne
      have hlast : atI (acc.map V.int) (-1) = some (V.int (acc.getLast ne)) := by
        have e9 : acc.map V.int = acc.dropLast.map V.int ++ [V.int (acc.getLast ne)] := (congrArg (List.map V.int) eg.symm).trans (by rw [List.map_append]; rfl)
        rw [e9]
        exact atI_last _ _
      refine ⟨_, rfl, _, rfl, _, rfl, L, _, _, _, rfl, rfl, SqL.of hL1, hlast, rfl, _, rfl, ?_⟩
      refine ite2 (fun c => ?_) (fun c => ?_)
      · have hne : l ≠ acc.getLast ne := by simpa using c
        refine ⟨_, rfl, .inl ⟨rfl, _, SqL.of hL1⟩, _, rfl, L, _, _, rfl, rfl, hL1, ?_, _, rfl, same_upd s1 hL, ?_⟩
        · rw [List.length_map, sizeLine_eq]; omega
        · rw [upd_same, step]
          unfold wstep
          rw [if_neg (by rw [List.getLast?_eq_some_getLast ne]; exact fun e => hne (Option.some.inj e).symm), List.map_append]
          rfl
      · have he : l = acc.getLast ne := by simpa using c
        refine ⟨_, rfl, s1, ?_⟩
        rw [step]
        unfold wstep
        rw [if_pos (by rw [List.getLast?_eq_some_getLast ne, he])]
        exact hL1
    · rintro σ H' ⟨v, rfl, s1, hL1⟩
      rw [List.length_map, List.take_length] at hL1
      refine ⟨_, rfl, L, _, rfl, .inl ⟨SqL.of hL1, fun q hq => k q _ (s1.trans (same_new hq)) upd_same⟩⟩
def spThins : Sp := fun vs H Q _ => ∃ (p q : Addr) (r o : List Int), vs = [.ref p, .ref q] ∧ RowAt H p r ∧ RowAt H q o ∧ 1 ≤ o.length ∧ o.length ≤ 1000 ∧ ∀ H', Same H H' → Q (.bl (thinB r o)) H'
abbrev nThins : List Str := ["_law_row_here", "_law_out", "_law_left", "_law_letter"]
theorem scThins : FnScope nThins ["_law_row_here", "_law_out"] (defScope sThins) := ⟨rfl, rfl, rfl, by decide +kernel, rfl, by decide +kernel, by decide +kernel⟩
theorem ok_Thins {f : Addr} {fd : FuncData} (T : Txt K mg) (F : Fun K "_law_thins" "_law_thins" sThins f fd) : FnOk P w K mg base CX0 2 f fd ["_law_row_here", "_law_out"] spThins := by
  obtain ⟨fWord, fdWord, FWord, mWord, bWord⟩ := T.word
  have GWord := ok_Word (P := P) (w := w) (base := base) T FWord
  refine F.ok scThins (fun vs H Q E h => ?_) (fun cdv A outer s H vs Q E hr h => ?_)
  · obtain ⟨p, q, r, o, rfl, _⟩ := h
    rfl
  · obtain ⟨p, q, r, o, rfl, hp, hq, h0, h1, k⟩ := h
    refine ⟨_, (pss_cons (ps_set (i := 2) scThins.nd rfl (Or.inl rfl) (pe_callTy call_list_of (by rfl) T.b_list (by decide +kernel) (pa_cons (pe_call GWord (hr.mono (by decide)) (by rfl) mWord FWord.kp bWord .nil pass0 (pa_cons (pv 1) pa_nil)) pa_nil)))
    (pss_cons (ps_for PassesOwn.never rfl (pi_tup (pv 0)) (pg_name (i := 3) scThins.nd rfl (Or.inl rfl))
      (pss_one (ps_if (PW.pt (pw_and (pt_cmpR op_gt (pe_callB call_len_seq (by rfl) T.b_len (by decide +kernel) (pa_cons (pv 2) pa_nil)) pe_int (nomark _)) (pw_and1 (pt_cmpR op_eq (pv 3) (pe_ix ix_list (pv 2) pe_int (fun _ _ => rfl)) (nomark _))))) (pss_one (ps_expr (pe_bm PySem.F.plainAttrs_list PySem.F.slot_list_pop PySem.F.type_list_pop mt_popAt (pv 2) (pa_cons pe_int pa_nil)))) pss_nil)))
    (pss_one (ps_ret (pe_cmpR op_eq (pe_callB call_len_seq (by rfl) T.b_len (by decide +kernel) (pa_cons (pv 2) pa_nil)) pe_int (nomark _)))))), ?_⟩
    refine ⟨_, rfl, q, o, rfl, hq, h0, h1, fun a H1 s1 ha => ⟨a, _, rfl, .inr ha.sq, fun L hL => ?_⟩⟩
    have s2 : Same H (upd H1 L (.lst ((wordL o).map V.int))) := s1.trans (same_new hL)
    have hL0 : H L = none := s1.free hL
    refine ⟨_, rfl, p, rfl, ⟨_, (hp.same s2).sq⟩, for_tup (K := K) (a := p) (xs := r.map V.int) (fun i σ H' => ∃ v, σ = [some (.ref p), some (.ref q), some (.ref L), v] ∧ Same H H' ∧ H' L = some (.lst (((r.take i).foldl pstep (wordL o)).map V.int)))
      ⟨none, rfl, s2, upd_same⟩ (fun i σ H' _ ⟨_, _, s1, _⟩ => (hp.same s1).sq) ?_ ?_⟩
    · rintro i y σ H' hy ⟨v, rfl, s3, hL1⟩
      obtain ⟨l, hl, rfl⟩ := at_map hy
      have step := take_fold (g := pstep) (b := wordL o) hl
      generalize (r.take i).foldl pstep (wordL o) = acc at hL1 step
      refine ⟨_, rfl, L, _, rfl, .inl (SqL.of hL1), _, _, rfl, rfl, _, rfl, ?_⟩
      cases acc with
      | nil => exact iteF (iteF ⟨_, rfl, s3, by rw [step]; exact hL1⟩)
      | cons z t =>
        have c0 : decide ((0 : Int) < (((z :: t).map V.int).length : Int)) = true := by simp
        rw [c0]
        refine iteT ?_
        refine ⟨_, rfl, _, rfl, L, _, _, _, rfl, rfl, SqL.of hL1, at_of (j := 0) rfl rfl, rfl, _, rfl, ?_⟩
        refine ite2 (fun c => ?_) (fun c => ?_)
        · have he : l = z := by simpa using c
          refine ⟨_, rfl, .inl ⟨rfl, _, SqL.of hL1⟩, L, _, _, 0, _, rfl, rfl, hL1, by decide, by decide, ?_, rfl, _, rfl, same_upd s3 hL0, ?_⟩
          · simp [seqIndex?]
          · rw [upd_same, step]
            simp [pstep, he]
        · have he : l ≠ z := by simpa using c
          refine ⟨_, rfl, s3, ?_⟩
          rw [step]
          simp only [pstep, if_neg he]
          exact hL1
    · rintro σ H' ⟨v, rfl, s3, hL1⟩
      rw [List.length_map, List.take_length] at hL1
      refine ⟨_, rfl, L, _, rfl, .inl (SqL.of hL1), rfl, ?_⟩
      have e : decide (V.int ((((r.foldl pstep (wordL o)).map V.int).length : Nat) : Int) = V.int 0) = thinB r o := by
        rw [← thinsL_eq]
        unfold thinsL
        rw [List.length_map]
        cases r.foldl pstep (wordL o) with
        | nil => rfl
        | cons x t => simp; omega
      rw [e]
      exact k H' s3
def spRows : Sp := fun vs H Q _ => ∃ (l : Addr) (ls : List Int) (n : Nat), vs = [.ref l, .int n] ∧ H l = some (.lst (ls.map V.int)) ∧ ls.length ≤ 4 ∧ n ≤ 6 ∧
  ∀ (a : Addr) (bs : List Addr) H', Same H H' → H a = none → H' a = some (.lst (bs.map V.ref)) → Rows H' bs (rowsL ls n) → Q (.ref a) H'
abbrev nRows : List Str := ["_law_letters", "_law_lanes", "_law_found", "_law_turn", "_law_longer", "_law_row_here", "_law_letter"]
theorem scRows : FnScope nRows ["_law_letters", "_law_lanes"] (defScope sRows) := ⟨rfl, rfl, rfl, by decide +kernel, rfl, by decide +kernel, by decide +kernel⟩
theorem rows_succ {ls : List Int} {rs : List (List Int)} {i : Nat} {r : List Int} (h : rs[i]? = some r) : (rs.take (i + 1)).flatMap (fun r => ls.map fun x => r ++ [x]) = (rs.take i).flatMap (fun r => ls.map fun x => r ++ [x]) ++ ls.map fun x => r ++ [x] := by
  rw [List.take_add_one, h, Option.toList_some, List.flatMap_append, List.flatMap_cons, List.flatMap_nil, List.append_nil]
theorem ok_Rows {f : Addr} {fd : FuncData} (T : Txt K mg) (F : Fun K "_law_rows" "_law_rows" sRows f fd) : FnOk P w K mg base CX0 1 f fd ["_law_letters", "_law_lanes"] spRows := by
  refine F.ok scRows (fun vs H Q E h => ?_) (fun cdv A outer s H vs Q E hr h => ?_)
  · obtain ⟨l, ls, n, rfl, _⟩ := h
    rfl
  · obtain ⟨l, ls, n, rfl, hl, h4, h6, k⟩ := h
    refine ⟨_, (pss_cons (ps_set (i := 2) scRows.nd rfl (Or.inl rfl) (pe_lst (pa_cons (pe_tup pa_nil) pa_nil)))
    (pss_cons (ps_for PassesOwn.never rfl (pi_range1 (by rfl) T.b_range (pa_cons (pv 1) pa_nil)) (pg_name (i := 3) scRows.nd rfl (Or.inl rfl))
      (pss_cons (ps_set (i := 4) scRows.nd rfl (Or.inl rfl) (pe_lst pa_nil))
    (pss_cons (ps_for PassesOwn.never rfl (pi_list (pv 2)) (pg_name (i := 5) scRows.nd rfl (Or.inr rfl))
      (pss_one (ps_expr (pe_bm PySem.F.plainAttrs_list PySem.F.slot_list_extend PySem.F.type_list_extend mt_extend (pv 4) (pa_cons (pe_lc (own := [("_law_letter", 6)]) (g := gName 6) (tt := tYes) rfl scRows.nd (pi_list (pv 0)) (blkOk_by (N := nRows) (sc := defScope sRows) (by decide +kernel)) (fun _ _ _ _ _ => (pg_name (i := 6) scRows.nd rfl (Or.inl rfl))) (fun _ _ _ _ _ => pts_nil) (fun _ _ _ _ _ => (pe_op (r := rCatA K) op_catA (pv 5) (pe_tup (pa_cons (pv 6) pa_nil))))) pa_nil)))))
    (pss_one (ps_set (i := 2) scRows.nd rfl (Or.inl rfl) (pv 4))))))
    (pss_one (ps_ret (pv 2))))), ?_⟩
    refine ⟨Nat.zero_le _, fun t ht => ⟨(by show 1 ≤ sizeLine; decide), fun F0 hF0 => ?_⟩⟩
    have sz : ∀ i, i ≤ n → (rowsL ls i).length ≤ 4096 := fun i hi => Nat.le_trans (length_rowsL h4 i) (by
      have : (4 : Nat) ^ i ≤ 4 ^ 6 := Nat.pow_le_pow_right (by decide) (by omega)
      exact this)
    refine ⟨_, rfl, _, rfl, by omega, by omega, for_range (fun i σ H' => ∃ (v1 v2 v3 v4 : Option V) (a : Addr) (bs : List Addr), σ = [some (.ref l), some (.int n), some (.ref a), v1, v2, v3, v4] ∧
      Same H H' ∧ H a = none ∧ H' a = some (.lst (bs.map V.ref)) ∧ Rows H' bs (rowsL ls i))
      ⟨none, none, none, none, F0, [t], rfl, (same_new ht).trans (same_new hF0), (same_new ht).free hF0, upd_same, .cons (by show upd _ F0 _ t = _; rw [upd_ne (fun e => by rw [e, ] at ht; rw [← e, upd_same] at hF0; cases hF0), upd_same]; rfl) .nil⟩ ?_ ?_⟩
    · rintro i σ H1 hi ⟨v1, v2, v3, v4, a, bs, rfl, s1, ha0, ha1, hR⟩
      have hin : i < n := by omega
      refine ⟨Nat.zero_le _, fun G hG => ?_⟩
      have hG0 : H G = none := s1.free hG
      have naG : a ≠ G := ne_of_none ha1 hG
      have s2 : Same H (upd H1 G (.lst [])) := s1.trans (same_new hG)
      refine ⟨_, rfl, a, rfl, ⟨_, SqL.of (Eq.trans (upd_ne naG) ha1)⟩, for_list (K := K) (a := a) (xs := bs.map V.ref) (fun j σ H' => ∃ (v3 v4 : Option V) (cs : List Addr), σ = [some (.ref l), some (.int n), some (.ref a), some (.int (0 + (i : Int))), some (.ref G), v3, v4] ∧
        Same H H' ∧ H' a = some (.lst (bs.map V.ref)) ∧ Rows H' bs (rowsL ls i) ∧ H' G = some (.lst (cs.map V.ref)) ∧ Rows H' cs (((rowsL ls i).take j).flatMap fun r => ls.map fun x => r ++ [x]) ∧ cs.length = j * ls.length)
        ⟨v3, v4, [], rfl, s2, Eq.trans (upd_ne naG) ha1, hR.ts (ts_new hG), upd_same, .nil, by simp⟩ (fun j σ H' _ ⟨_, _, _, _, _, q, _⟩ => SqL.of q) ?_ ?_⟩
      · rintro j y σ H2 hy ⟨v3, v4, cs, rfl, s3, ha2, hR2, hG2, hC2, hcl⟩
        obtain ⟨b, hb, rfl⟩ := at_map hy
        obtain ⟨r, hr1, hr2⟩ := hR2.at hb
        have hj : j < 4096 := by
          have h1 := (List.getElem?_eq_some_iff.mp hr1).1
          have h2 := sz i (by omega)
          omega
        have hrl : r.length ≤ 6 := by
          have := (mem_rowsL.mp (List.mem_of_getElem? hr1)).1
          omega
        refine ⟨_, rfl, .inl ⟨rfl, _, SqL.of hG2⟩, ?_⟩
        refine ⟨_, rfl, l, rfl, ⟨_, SqL.of (s3 _ _ hl)⟩, fun D hD => lc_list (K := K) (a := l) (xs := ls.map V.int) (fun m H' => ∃ ds : List Addr, Same H2 H' ∧ H' D = some (.lst (ds.map V.ref)) ∧ Rows H' ds ((ls.take m).map fun x => r ++ [x]) ∧ ds.length = m)
          ⟨[], same_new hD, upd_same, .nil, rfl⟩ (fun m H' _ ⟨_, q, _⟩ => SqL.of (q _ _ (s3 _ _ hl))) ?_ ?_⟩
        · rintro m z H3 hz ⟨ds, s4, hD3, hD4, hdl⟩
          obtain ⟨x, hx, rfl⟩ := at_map hz
          have hm := (List.getElem?_eq_some_iff.mp hx).1
          refine ⟨rfl, ?_⟩
          refine ⟨_, rfl, _, rfl, (by show 1 ≤ sizeLine; decide), fun u hu => ?_⟩
          refine catA (xs := r.map V.int) (ys := [.int x]) (Eq.trans (upd_ne (ne_of_none (hr2.same s4) hu)) (hr2.same s4)) upd_same ?_ fun q H5 s5 e5 => ?_
          · rw [List.length_map, sizeLine_eq]
            show r.length + 1 ≤ 16777216
            omega
          have hD5 : H5 D = some (.lst (ds.map V.ref)) := s5 _ _ (Eq.trans (upd_ne (ne_of_none hD3 hu)) hD3)
          refine ⟨_, hD5, ?_, ds ++ [q], same_upd ((s4.trans (same_new hu)).trans s5) hD, by rw [upd_same, List.map_append]; rfl, ?_, by rw [List.length_append, hdl]; rfl⟩
          · rw [List.length_map, hdl, sizeLine_eq]; omega
          · have e6 : (ls.take (m + 1)).map (fun x => r ++ [x]) = (ls.take m).map (fun x => r ++ [x]) ++ [r ++ [x]] := by
              rw [List.take_add_one, hx, Option.toList_some, List.map_append]; rfl
            rw [e6]
            refine (((hD4.ts (ts_new hu)).ts (Same.ts s5)).ts (ts_lst hD5)).snoc ?_
            show upd H5 D _ q = some (.tup ((r ++ [x]).map V.int))
            rw [upd_ne (ne_of e5 hD5 (fun z => nomatch z)), e5, List.map_append]
            rfl
        · rintro H3 ⟨ds, s4, hD3, hD4, hdl⟩
          rw [List.length_map] at hdl hD4
          rw [List.take_length] at hD4
          have hG3 := s4 _ _ hG2
          have lj : j * ls.length ≤ 4096 * 4 := Nat.mul_le_mul (by omega) h4
          refine ⟨G, D, _, _, rfl, rfl, hG3, hD3, ?_, ?_⟩
          · rw [List.length_map, List.length_map, hdl, hcl, sizeLine_eq]; omega
          · refine ⟨_, _, cs ++ ds, rfl, same_upd (s3.trans s4) hG0, ?_, (hR2.ts (Same.ts s4)).ts (ts_lst hG3), by rw [upd_same, List.map_append], ?_, ?_⟩
            · rw [upd_ne naG]; exact s4 _ _ ha2
            · rw [rows_succ hr1]
              exact ((hC2.ts (Same.ts s4)).ts (ts_lst hG3)).app (hD4.ts (ts_lst hG3))
            · rw [List.length_append, hcl, hdl, Nat.succ_mul]
      · rintro σ H2 ⟨v3, v4, cs, rfl, s3, ha2, hR2, hG2, hC2, hcl⟩
        rw [List.length_map, hR2.length, List.take_length] at hC2
        exact ⟨_, rfl, _, _, _, _, G, cs, rfl, s3, hG0, hG2, hC2⟩
    · rintro σ H1 ⟨v1, v2, v3, v4, a, bs, rfl, s1, ha0, ha1, hR⟩
      exact ⟨_, rfl, k a bs H1 s1 ha0 ha1 hR⟩
end
end K17
namespace K17
open PySem L2
theorem rep_flat (k : Nat) (d : Int) : (List.replicate k [V.int d]).flatten = (List.replicate k d).map V.int := by
  induction k with
  | zero => rfl
  | succ k ih => rw [List.replicate_succ, List.flatten_cons, ih, List.replicate_succ]; rfl
theorem toNat_way {r : List Int} : ∀ {ns : List Int}, (∀ z ∈ ns, 0 ≤ z ∧ z < r.length) → ns.Pairwise (· ≤ ·) → Thin r (ns.map fun z => r.getD z.toNat 0) := by
  intro ns h hs
  have := thin_of_way (r := r) (ps := ns.map Int.toNat) 0 (fun q hq => by
    obtain ⟨z, hz, rfl⟩ := List.mem_map.mp hq
    have := h z hz
    omega) (by
    rw [List.pairwise_map]
    exact List.Pairwise.imp (fun {a b} e => by omega) hs)
  rw [List.drop_zero, List.map_map] at this
  exact this
section
variable {P : Program} {w : World} {K : PySem.W.Frag} {mg : Str → Option Value} {base : Heap}
def spRow : Sp := fun vs H Q _ => ∃ (h c : Addr) (lt mo : Int), vs = [.ref h, .int lt, .int mo] ∧ Hand H h c ∧ 1 ≤ lt ∧ lt ≤ 4 ∧ 1 ≤ mo ∧ mo ≤ 12 ∧
  ∀ (q : Addr) (r : List Int) H', But h H H' → Hand H' h c → RowAt H' q r → 1 ≤ r.length → (r.length : Int) ≤ mo → (∀ l ∈ r, 0 ≤ l ∧ l < lt) → Q (.ref q) H'
abbrev nRow : List Str := ["_law_hand_here", "_law_letters", "_law_most", "_law_many", "_law_k", "_law_found"]
theorem scRow : FnScope nRow ["_law_hand_here", "_law_letters", "_law_most"] (defScope sRow) := ⟨rfl, rfl, rfl, by decide +kernel, rfl, by decide +kernel, by decide +kernel⟩
theorem ok_Row {f : Addr} {fd : FuncData} (T : Txt K mg) (F : Fun K "_law_row" "_law_row" sRow f fd) : FnOk P w K mg base CX0 2 f fd ["_law_hand_here", "_law_letters", "_law_most"] spRow := by
  obtain ⟨fDraw, fdDraw, FDraw, mDraw, bDraw⟩ := T.draw
  have GDraw := ok_Draw (P := P) (w := w) (base := base) T FDraw
  refine F.ok scRow (fun vs H Q E h => ?_) (fun cdv A outer s H vs Q E hr h => ?_)
  · obtain ⟨h, c, lt, mo, rfl, _⟩ := h
    rfl
  · obtain ⟨h, c, lt, mo, rfl, hh, hl1, hl4, hm1, hm12, k⟩ := h
    refine ⟨_, (pss_cons (ps_set (i := 3) scRow.nd rfl (Or.inl rfl) (pe_op op_add pe_int (pe_call GDraw (hr.mono (by decide)) (by rfl) mDraw FDraw.kp bDraw .nil pass0 (pa_cons (pv 0) (pa_cons (pv 2) pa_nil)))))
    (pss_cons (ps_if (pt_cmpR op_eq (pe_call GDraw (hr.mono (by decide)) (by rfl) mDraw FDraw.kp bDraw .nil pass0 (pa_cons (pv 0) (pa_cons pe_int pa_nil))) pe_int (nomark _)) (pss_one (ps_ret (pe_callTy call_tuple_of (by rfl) T.b_tuple (by decide +kernel) (pa_cons (pe_lc (own := [("_law_k", 4)]) (g := gName 4) (tt := tYes) rfl scRow.nd (pi_range1 (by rfl) T.b_range (pa_cons (pv 3) pa_nil)) (blkOk_by (N := nRow) (sc := defScope sRow) (by decide +kernel)) (fun _ _ _ _ _ => (pg_name (i := 4) scRow.nd rfl (Or.inl rfl))) (fun _ _ _ _ _ => pts_nil) (fun _ _ _ _ _ => (pe_call GDraw (hr.mono (by decide)) (by rfl) mDraw FDraw.kp bDraw .nil pass0 (pa_cons (pv 0) (pa_cons (pv 1) pa_nil))))) pa_nil)))) pss_nil)
    (pss_cons (ps_set (i := 5) scRow.nd rfl (Or.inl rfl) (pe_lst pa_nil))
    (pss_cons (ps_for PassesOwn.never rfl (pi_range1 (by rfl) T.b_range (pa_cons (pv 3) pa_nil)) (pg_name (i := 4) scRow.nd rfl (Or.inl rfl))
      (pss_one (ps_if (pt_cmpR op_lt (pe_callB call_len_seq (by rfl) T.b_len (by decide +kernel) (pa_cons (pv 5) pa_nil)) (pv 3) (nomark _)) (pss_one (ps_expr (pe_bm PySem.F.plainAttrs_list PySem.F.slot_list_extend PySem.F.type_list_extend mt_extend (pv 5) (pa_cons (pe_op op_rep (pe_lst (pa_cons (pe_call GDraw (hr.mono (by decide)) (by rfl) mDraw FDraw.kp bDraw .nil pass0 (pa_cons (pv 0) (pa_cons (pv 1) pa_nil))) pa_nil)) (pe_op op_add pe_int (pe_call GDraw (hr.mono (by decide)) (by rfl) mDraw FDraw.kp bDraw .nil pass0 (pa_cons (pv 0) (pa_cons pe_int pa_nil))))) pa_nil)))) pss_nil)))
    (pss_one (ps_ret (pe_callTy call_tuple_of (by rfl) T.b_tuple (by decide +kernel) (pa_cons (pe_slice sl_list (pv 5) po_none (po_some (pv 3))) pa_nil)))))))), ?_⟩
    refine ⟨_, rfl, _, rfl, h, c, _, rfl, hh, by omega, by omega, fun d H1 b1 hh1 d0 d1 => ?_⟩
    refine ⟨_, _, rfl, rfl, ?_⟩
    obtain ⟨n, hn⟩ : ∃ n : Nat, (1 : Int) + d = n := ⟨(1 + d).toNat, by omega⟩
    dsimp only
    rw [hn]
    refine ⟨_, rfl, h, c, _, rfl, hh1, by decide, by decide, fun d2 H2 b2 hh2 _ _ => ?_⟩
    have b12 : But h H H2 := b1.trans b2
    refine ⟨rfl, _, rfl, ?_⟩
    refine ite2 (fun _ => ?_) (fun _ => ?_)
    · refine ⟨_, rfl, _, rfl, by omega, by omega, fun D hD => lc_range (fun i H' => ∃ cs : List Int, But h H2 H' ∧ Hand H' h c ∧ H' D = some (.lst (cs.map V.int)) ∧ cs.length = i ∧ ∀ l ∈ cs, 0 ≤ l ∧ l < lt)
        ⟨[], but_new (But.refl _ _) hD, hh2.upd (hh2.new hD).1 (hh2.new hD).2, upd_same, rfl, fun l hl => nomatch hl⟩ ?_ ?_⟩
      · rintro i H3 hi ⟨cs, q1, q2, q3, q4, q5⟩
        refine ⟨rfl, ?_⟩
        obtain ⟨nDh, nDc⟩ := hh2.new hD
        refine ⟨_, rfl, _, rfl, h, c, lt, rfl, q2, by omega, by omega, fun e H4 b4 hh4 e0 e1 => ?_⟩
        have hD4 := b4 _ _ nDh q3
        refine ⟨_, hD4, ?_, cs ++ [e], but_new (q1.trans b4) hD, hh4.upd nDh nDc, by rw [upd_same, List.map_append]; rfl, by rw [List.length_append, q4]; rfl, fun l hl => ?_⟩
        · rw [List.length_map, q4, sizeLine_eq]; omega
        · rcases List.mem_append.mp hl with hl | hl
          · exact q5 l hl
          · rw [List.mem_singleton] at hl; rw [hl]; exact ⟨e0, e1⟩
      · rintro H3 ⟨cs, q1, q2, q3, q4, q5⟩
        have hcl : cs.length = n := by rw [q4]; omega
        refine ⟨D, _, rfl, .inl ⟨SqL.of q3, fun q hq => ?_⟩⟩
        exact k q cs _ (but_new (b12.trans q1) (b12.free (q2.new hq).1 (q1.free (q2.new hq).1 hq))) (q2.same (same_new hq)) upd_same (by omega) (by omega) q5
    · refine ⟨Nat.zero_le _, fun L hL => ?_⟩
      obtain ⟨nLh, nLc⟩ := hh2.new hL
      have hL0 : H L = none := b12.free nLh hL
      refine ⟨_, rfl, _, rfl, by omega, by omega, for_range (fun i σ H' => ∃ (v : Option V) (cs : List Int), σ = [some (.ref h), some (.int lt), some (.int mo), some (.int n), v, some (.ref L)] ∧ But h H H' ∧ Hand H' h c ∧ H' L = some (.lst (cs.map V.int)) ∧
        (∀ l ∈ cs, 0 ≤ l ∧ l < lt) ∧ (i ≤ cs.length ∨ n ≤ cs.length) ∧ cs.length ≤ 100)
        ⟨none, [], rfl, but_new b12 hL0, hh2.upd nLh nLc, upd_same, fun l hl => (nomatch hl), .inl (Nat.le_refl _), Nat.zero_le _⟩ ?_ ?_⟩
      · rintro i σ H3 hi ⟨v, cs, rfl, q1, q2, q3, q4, q5, q6⟩
        refine ⟨_, rfl, L, _, rfl, .inl (SqL.of q3), ?_⟩
        rw [List.length_map]
        refine ⟨_, rfl, _, _, rfl, rfl, _, rfl, ?_⟩
        refine ite2 (fun c1 => ?_) (fun c1 => ?_)
        · have hlt : cs.length < n := by simpa using c1
          refine ⟨_, rfl, .inl ⟨rfl, _, SqL.of q3⟩, ?_⟩
          refine ⟨_, rfl, _, rfl, h, c, lt, rfl, q2, by omega, by omega, fun e H4 b4 hh4 e0 e1 => ⟨(by show 1 ≤ sizeLine; decide), fun X1 hX1 => ?_⟩⟩
          obtain ⟨nXh, nXc⟩ := hh4.new hX1
          have q34 := b4 _ _ nLh q3
          have nLX : L ≠ X1 := ne_of_none q34 hX1
          refine ⟨_, rfl, h, c, _, rfl, hh4.upd nXh nXc, by decide, by decide, fun g H5 b5 hh5 g0 g1 => ?_⟩
          refine ⟨_, _, rfl, rfl, ?_⟩
          have hX5 : H5 X1 = some (.lst [.int e]) := b5 _ _ nXh upd_same
          have hL5 := b5 _ _ nLh (Eq.trans (upd_ne nLX) q34)
          refine ⟨X1, _, _, rfl, rfl, hX5, by omega, by omega, ?_, fun Y hY => ?_⟩
          · have : (1 + g).toNat ≤ 3 := by omega
            show 1 * (1 + g).toNat ≤ sizeLine
            rw [sizeLine_eq]; omega
          · have nLY : L ≠ Y := ne_of_none hL5 hY
            obtain ⟨nYh, nYc⟩ := hh5.new hY
            rw [rep_flat]
            refine ⟨L, Y, _, _, rfl, rfl, Eq.trans (upd_ne nLY) hL5, upd_same, ?_, ?_⟩
            · rw [List.length_map, List.length_map, List.length_replicate, sizeLine_eq]; omega
            · have hX4 : H4 X1 = none := hX1
              have bY : But h H (upd H5 Y (.lst ((List.replicate (1 + g).toNat e).map V.int))) := fun b o nb eb => by
                have e4 := b4 b o nb (q1 b o nb eb)
                have e5 := b5 b o nb (by rw [upd_ne (ne_of_none e4 hX1)]; exact e4)
                rw [upd_ne (ne_of_none e5 hY)]; exact e5
              refine ⟨_, cs ++ List.replicate (1 + g).toNat e, rfl, fun b o nb eb => ?_, (hh5.upd nYh nYc).upd nLh nLc, by rw [upd_same, List.map_append], fun l hl => ?_, ?_, ?_⟩
              · rw [upd_ne (ne_of_none eb hL0)]; exact bY b o nb eb
              · rcases List.mem_append.mp hl with hl | hl
                · exact q4 l hl
                · rw [(List.mem_replicate.mp hl).2]; exact ⟨e0, e1⟩
              · rw [List.length_append, List.length_replicate]; omega
              · rw [List.length_append, List.length_replicate]; omega
        · have hge : n ≤ cs.length := by simpa using c1
          exact ⟨_, cs, rfl, q1, q2, q3, q4, .inr hge, q6⟩
      · rintro σ H3 ⟨v, cs, rfl, q1, q2, q3, q4, q5, q6⟩
        have hge : n ≤ cs.length := by omega
        refine ⟨_, rfl, ?_⟩
        unfold tNoPart
        refine ⟨_, rfl, n, rfl, L, _, rfl, SqL.of q3, fun B hB => ?_⟩
        rw [cut_to cs hge]
        refine ⟨B, _, rfl, .inl ⟨SqL.of upd_same, fun q hq => ?_⟩⟩
        have hcl : (cs.take n).length = n := by rw [List.length_take]; omega
        have s3 : Same H3 (upd (upd H3 B (.lst ((cs.take n).map V.int))) q (.tup ((cs.take n).map V.int))) := (same_new hB).trans (same_new hq)
        exact k q (cs.take n) _ (q1.same s3) (q2.same s3) upd_same (by omega) (by omega) fun l hl => q4 l (List.mem_of_mem_take hl)
def spThinned : Sp := fun vs H Q _ => ∃ (h c p : Addr) (r : List Int) (mo : Int), vs = [.ref h, .ref p, .int mo] ∧ Hand H h c ∧ RowAt H p r ∧ 1 ≤ r.length ∧ r.length ≤ 1000 ∧ 1 ≤ mo ∧ mo ≤ 12 ∧
  ∀ (q : Addr) (o : List Int) H', But h H H' → Hand H' h c → RowAt H' q o → 1 ≤ o.length → (o.length : Int) ≤ mo → thinB r o = true → Q (.ref q) H'
abbrev nThinned : List Str := ["_law_hand_here", "_law_row_here", "_law_most", "_law_k", "_law_places", "_law_place"]
theorem scThinned : FnScope nThinned ["_law_hand_here", "_law_row_here", "_law_most"] (defScope sThinned) := ⟨rfl, rfl, rfl, by decide +kernel, rfl, by decide +kernel, by decide +kernel⟩
theorem ok_Thinned {f : Addr} {fd : FuncData} (T : Txt K mg) (F : Fun K "_law_thinned" "_law_thinned" sThinned f fd) : FnOk P w K mg base CX0 2 f fd ["_law_hand_here", "_law_row_here", "_law_most"] spThinned := by
  obtain ⟨fDraw, fdDraw, FDraw, mDraw, bDraw⟩ := T.draw
  have GDraw := ok_Draw (P := P) (w := w) (base := base) T FDraw
  refine F.ok scThinned (fun vs H Q E h => ?_) (fun cdv A outer s H vs Q E hr h => ?_)
  · obtain ⟨h, c, p, r, mo, rfl, _⟩ := h
    rfl
  · obtain ⟨h, c, p, r, mo, rfl, hh, hp, hr1, hr2, hm1, hm12, k⟩ := h
    refine ⟨_, (pss_cons (ps_set (i := 4) scThinned.nd rfl (Or.inl rfl) (pe_callB cr_sorted (by rfl) T.b_sorted (by decide +kernel) (pa_cons (pe_lc (own := [("_law_k", 3)]) (g := gName 3) (tt := tYes) rfl scThinned.nd (pi_range1 (by rfl) T.b_range (pa_cons (pe_op op_add pe_int (pe_call GDraw (hr.mono (by decide)) (by rfl) mDraw FDraw.kp bDraw .nil pass0 (pa_cons (pv 0) (pa_cons (pv 2) pa_nil)))) pa_nil)) (blkOk_by (N := nThinned) (sc := defScope sThinned) (by decide +kernel)) (fun _ _ _ _ _ => (pg_name (i := 3) scThinned.nd rfl (Or.inl rfl))) (fun _ _ _ _ _ => pts_nil) (fun _ _ _ _ _ => (pe_call GDraw (hr.mono (by decide)) (by rfl) mDraw FDraw.kp bDraw .nil pass0 (pa_cons (pv 0) (pa_cons (pe_callB (r := rLenS K) call_lenS (by rfl) T.b_len (by decide +kernel) (pa_cons (pv 1) pa_nil)) pa_nil))))) pa_nil)))
    (pss_one (ps_ret (pe_callTy call_tuple_of (by rfl) T.b_tuple (by decide +kernel) (pa_cons (pe_lc (own := [("_law_place", 5)]) (g := gName 5) (tt := tYes) rfl scThinned.nd (pi_list (pv 4)) (blkOk_by (N := nThinned) (sc := defScope sThinned) (by decide +kernel)) (fun _ _ _ _ _ => (pg_name (i := 5) scThinned.nd rfl (Or.inl rfl))) (fun _ _ _ _ _ => pts_nil) (fun _ _ _ _ _ => (pe_ix (r := rIxT K) ix_tup (pv 1) (pv 5) (fun _ _ => rfl)))) pa_nil))))), ?_⟩
    refine ⟨_, rfl, _, rfl, h, c, _, rfl, hh, by omega, by omega, fun d H1 b1 hh1 d0 d1 => ?_⟩
    refine ⟨_, _, rfl, rfl, _, rfl, by omega, by omega, fun D hD => lc_range (fun i H' => ∃ cs : List Int, But h H1 H' ∧ Hand H' h c ∧ H' D = some (.lst (cs.map V.int)) ∧ cs.length = i ∧ ∀ l ∈ cs, 0 ≤ l ∧ l < r.length)
      ⟨[], but_new (But.refl _ _) hD, hh1.upd (hh1.new hD).1 (hh1.new hD).2, upd_same, rfl, fun l hl => nomatch hl⟩ ?_ ?_⟩
    · rintro i H3 hi ⟨cs, q1, q2, q3, q4, q5⟩
      refine ⟨rfl, ?_⟩
      obtain ⟨nDh, nDc⟩ := hh1.new hD
      have hp3 := (hp.hand b1 hh).hand q1 hh1
      refine ⟨_, rfl, _, rfl, p, _, rfl, .inr hp3.sq, h, c, _, rfl, q2, ?_, ?_, fun e H4 b4 hh4 e0 e1 => ?_⟩
      · rw [List.length_map]; omega
      · rw [List.length_map]; omega
      rw [List.length_map] at e1
      have hD4 := b4 _ _ nDh q3
      refine ⟨_, hD4, ?_, cs ++ [e], but_new (q1.trans b4) hD, hh4.upd nDh nDc, by rw [upd_same, List.map_append]; rfl, by rw [List.length_append, q4]; rfl, fun l hl => ?_⟩
      · rw [List.length_map, q4, sizeLine_eq]; omega
      · rcases List.mem_append.mp hl with hl | hl
        · exact q5 l hl
        · rw [List.mem_singleton] at hl; rw [hl]; exact ⟨e0, e1⟩
    · rintro H3 ⟨cs, q1, q2, q3, q4, q5⟩
      have hcl : (cs.length : Int) = 1 + d := by rw [q4]; omega
      refine ⟨D, cs, rfl, SqL.of q3, by omega, fun ns B hpm hsr hB => ?_⟩
      have hnl : ns.length = cs.length := hpm.length_eq
      have hnm : ∀ z ∈ ns, 0 ≤ z ∧ z < r.length := fun z hz => q5 z (hpm.mem_iff.mp hz)
      have hB1 : upd H3 B (.lst (ns.map V.int)) B = some (.lst (ns.map V.int)) := upd_same
      have s3 : Same H3 (upd H3 B (.lst (ns.map V.int))) := same_new hB
      have hpB := (((hp.hand b1 hh).hand q1 hh1).same s3)
      refine ⟨_, rfl, B, rfl, ⟨_, SqL.of hB1⟩, fun G hG => lc_list (K := K) (a := B) (xs := ns.map V.int) (fun i H' => Same (upd H3 B (.lst (ns.map V.int))) H' ∧ H' G = some (.lst (((ns.take i).map fun z => r.getD z.toNat 0).map V.int)))
        ⟨same_new hG, upd_same⟩ (fun i H' _ q => SqL.of (q.1 _ _ hB1)) ?_ ?_⟩
      · rintro i y H4 hy ⟨g1, g2⟩
        obtain ⟨z, hz, rfl⟩ := at_map hy
        have hi := (List.getElem?_eq_some_iff.mp hz).1
        obtain ⟨z0, z1⟩ := hnm z (List.mem_of_getElem? hz)
        refine ⟨rfl, ?_⟩
        have hzr : z.toNat < r.length := by omega
        refine ⟨_, rfl, _, rfl, p, _, z, _, rfl, rfl, (hpB.same g1).sq, at_of (j := z.toNat) (by omega) (map_at (List.getElem?_eq_getElem hzr)), _, g2, ?_, same_upd g1 hG, ?_⟩
        · rw [List.length_map, List.length_map, List.length_take, sizeLine_eq]; omega
        · rw [upd_same, List.take_add_one, hz, Option.toList_some, List.map_append, List.map_append]
          have e : r.getD z.toNat 0 = r[z.toNat] := by simp [List.getD, hzr]
          have e2 : (List.map (fun z : Int => r.getD z.toNat 0) [z]).map V.int = [V.int r[z.toNat]] := by
            show [V.int (r.getD z.toNat 0)] = _
            rw [e]
          rw [e2]
      · rintro H4 ⟨g1, g2⟩
        rw [List.length_map, List.take_length] at g2
        refine ⟨G, _, rfl, .inl ⟨SqL.of g2, fun q hq => ?_⟩⟩
        have s5 := (s3.trans g1).trans (same_new (o := .tup ((ns.map fun (z : Int) => r.getD z.toNat 0).map V.int)) hq)
        refine k q (ns.map fun (z : Int) => r.getD z.toNat 0) _ ((b1.trans q1).same s5) (q2.same s5) upd_same ?_ ?_ (thin_iff.mpr (toNat_way hnm hsr))
        · rw [List.length_map]; omega
        · rw [List.length_map]; omega
end
end K17
namespace K17
open PySem L2
/-! ### dicts whose keys are rows -/
structure DictIs (kvs : List (List Key × V)) (ks : List (List Int)) : Prop where
  keys : kvs.map (·.1) = ks.map keyR
  nd : ks.Nodup
theorem DictIs.len {kvs : List (List Key × V)} {ks : List (List Int)} (h : DictIs kvs ks) : kvs.length = ks.length := by
  have := congrArg List.length h.keys
  simpa using this
theorem valV_key {kvs : List (List Key × V)} {k : List Key} : valV kvs k = none ↔ k ∉ kvs.map (·.1) := by
  constructor
  · exact valV_not
  · intro h
    cases e : valV kvs k with
    | none => rfl
    | some v => exact (h (valV_in e)).elim
theorem mem_keyR {ks : List (List Int)} {r : List Int} : keyR r ∈ ks.map keyR ↔ r ∈ ks := by
  constructor
  · intro h
    obtain ⟨u, hu, e⟩ := List.mem_map.mp h
    rw [← keyR_inj e]; exact hu
  · exact fun h => List.mem_map.mpr ⟨r, h, rfl⟩
theorem DictIs.none {kvs : List (List Key × V)} {ks : List (List Int)} (h : DictIs kvs ks) {r : List Int} : valV kvs (keyR r) = Option.none ↔ r ∉ ks := by
  rw [valV_key, h.keys, mem_keyR]
theorem DictIs.put {kvs : List (List Key × V)} {ks : List (List Int)} (h : DictIs kvs ks) {r : List Int} (v : V) (hn : valV kvs (keyR r) = Option.none) : DictIs (putK kvs (keyR r) v) (ks ++ [r]) := by
  have h2 := h.none.mp hn
  refine ⟨?_, ?_⟩
  · rw [putK_new v hn, List.map_append, h.keys, List.map_append]
    rfl
  · rw [List.nodup_append]
    refine ⟨h.nd, by simp, fun a ha b hb e => ?_⟩
    rw [List.mem_singleton] at hb
    subst hb e
    exact h2 ha
theorem val_put (kvs : List (List Key × V)) (r u : List Int) (v : V) : valV (putK kvs (keyR r) v) (keyR u) = if u = r then some v else valV kvs (keyR u) := by
  rw [valV_put]
  by_cases e : u = r
  · rw [if_pos e, if_pos (by rw [e])]
  · rw [if_neg e, if_neg (fun q => e (keyR_inj q))]
theorem merge_app : ∀ (more acc : List (List Key × V)), ((acc ++ more).map (·.1)).Nodup → mergeT acc more = acc ++ more
  | [], acc, _ => by simp [mergeT]
  | p :: r, acc, h => by
    have hn : valV acc p.1 = none := by
      rw [valV_key]
      intro hm
      rw [List.map_append, List.map_cons, List.nodup_append] at h
      exact h.2.2 _ hm p.1 List.mem_cons_self rfl
    show mergeT (putK acc p.1 p.2) r = _
    rw [putK_new p.2 hn, merge_app r _ (by simpa using h)]
    simp
/-! ### level by level, on the heap -/
/-- a row out as it is handed in -/
def Good (n : Nat) (u : List Int) : Prop := u.length = n ∧ Lets u
theorem Stp.good {n : Nat} {u v : List Int} (h : Stp u v) (g : Good n u) : Good n v :=
  ⟨h.perm.length_eq.trans g.1, fun l hl => g.2 l (h.perm.mem_iff.mp hl)⟩
/-- every: the list at lE; the dict at dA; the edge at eA -/
structure BBase (H0 : Hp) (n : Nat) (g : Nat → V) (F : List Int → Option Nat) (dA eA lE : Addr) (es : List (Nat × Nat × Nat)) (lbs bs : List Addr) (edge : List (List Int)) (kvs : List (List Key × V)) (ks : List (List Int)) (H : Hp) : Prop where
  same : Same H0 H
  hd : H dA = some (.dT kvs)
  di : DictIs kvs ks
  good : ∀ u ∈ ks, Good n u
  val : ∀ v, valV kvs (keyR v) = (F v).map g
  he : H eA = some (.lst (bs.map V.ref))
  re : Rows H bs edge
  hl : H lE = some (.lst (lbs.map V.ref))
  xl : Exs H lbs es
theorem BBase.keep {H0 : Hp} {n : Nat} {g : Nat → V} {F : List Int → Option Nat} {dA eA lE : Addr} {es : List (Nat × Nat × Nat)} {lbs bs : List Addr} {edge : List (List Int)} {kvs : List (List Key × V)} {ks : List (List Int)} {H H' : Hp}
    (B : BBase H0 n g F dA eA lE es lbs bs edge kvs ks H) (s : Same H H') : BBase H0 n g F dA eA lE es lbs bs edge kvs ks H' :=
  ⟨B.same.trans s, s _ _ B.hd, B.di, B.good, B.val, s _ _ B.he, B.re.ts (Same.ts s), s _ _ B.hl, B.xl.ts (Same.ts s)⟩
theorem BBase.size {H0 : Hp} {n : Nat} {g : Nat → V} {F : List Int → Option Nat} {dA eA lE : Addr} {es : List (Nat × Nat × Nat)} {lbs bs : List Addr} {edge : List (List Int)} {kvs : List (List Key × V)} {ks : List (List Int)} {H : Hp}
    (B : BBase H0 n g F dA eA lE es lbs bs edge kvs ks H) (h9 : n ≤ 9) : kvs.length < sizeLine := by
  have h1 := rows_le B.di.nd B.good
  have h2 : (4 : Nat) ^ n ≤ 4 ^ 9 := Nat.pow_le_pow_right (by decide) h9
  have h3 : (4 : Nat) ^ 9 = 262144 := by decide
  rw [B.di.len, sizeLine_eq]
  omega
theorem BBase.mem {H0 : Hp} {n : Nat} {g : Nat → V} {F : List Int → Option Nat} {dA eA lE : Addr} {es : List (Nat × Nat × Nat)} {lbs bs : List Addr} {edge : List (List Int)} {kvs : List (List Key × V)} {ks : List (List Int)} {H : Hp}
    (B : BBase H0 n g F dA eA lE es lbs bs edge kvs ks H) {v : List Int} {d : Nat} (h : F v = some d) : v ∈ ks := by
  apply Classical.byContradiction
  intro hn
  have := B.val v
  rw [B.di.none.mpr hn, h] at this
  cases this
/-- within a turn: later at G -/
def BSt (H0 : Hp) (n : Nat) (g : Nat → V) (S : List Int → Prop) (t : Nat) (dA eA lE G : Addr) (es : List (Nat × Nat × Nat)) (lbs bs : List Addr) (edge : List (List Int)) (P : List Int → Prop) (H : Hp) : Prop :=
  ∃ F kvs ks cs later, BBase H0 n g F dA eA lE es lbs bs edge kvs ks H ∧ H G = some (.lst (cs.map V.ref)) ∧ Rows H cs later ∧ Mid S t F edge later P
theorem BSt.keep {H0 : Hp} {n : Nat} {g : Nat → V} {S : List Int → Prop} {t : Nat} {dA eA lE G : Addr} {es : List (Nat × Nat × Nat)} {lbs bs : List Addr} {edge : List (List Int)} {P : List Int → Prop} {H H' : Hp}
    (B : BSt H0 n g S t dA eA lE G es lbs bs edge P H) (s : Same H H') : BSt H0 n g S t dA eA lE G es lbs bs edge P H' := by
  obtain ⟨F, kvs, ks, cs, later, h1, h2, h3, h4⟩ := B
  exact ⟨F, kvs, ks, cs, later, h1.keep s, s _ _ h2, h3.ts (Same.ts s), h4⟩
theorem BSt.weak {H0 : Hp} {n : Nat} {g : Nat → V} {S : List Int → Prop} {t : Nat} {dA eA lE G : Addr} {es : List (Nat × Nat × Nat)} {lbs bs : List Addr} {edge : List (List Int)} {P P' : List Int → Prop} {H : Hp}
    (B : BSt H0 n g S t dA eA lE G es lbs bs edge P H) (h : ∀ v, P' v → P v) : BSt H0 n g S t dA eA lE G es lbs bs edge P' H := by
  obtain ⟨F, kvs, ks, cs, later, h1, h2, h3, h4⟩ := B
  exact ⟨F, kvs, ks, cs, later, h1, h2, h3, h4.weak h⟩
theorem BBase.new {H0 : Hp} {n : Nat} {g : Nat → V} {S : List Int → Prop} {t : Nat} {F : List Int → Option Nat} {dA eA lE G : Addr} {es : List (Nat × Nat × Nat)} {lbs bs cs : List Addr} {edge later : List (List Int)} {P : List Int → Prop} {kvs : List (List Key × V)} {ks : List (List Int)} {H : Hp}
    (B : BBase H0 n g F dA eA lE es lbs bs edge kvs ks H) (hG : H G = some (.lst (cs.map V.ref))) (hR : Rows H cs later) (M : Mid S t F edge later P) (d0 : H0 dA = none) (g0 : H0 G = none) (nGe : G ≠ eA) (nGl : G ≠ lE)
    {u v : List Int} {q : Addr} (hq : RowAt H q v) (hu : u ∈ edge) (hs : Stp u v) (gv : Good n v) (hv : valV kvs (keyR v) = none) :
    BSt H0 n g S t dA eA lE G es lbs bs edge (fun w => P w ∨ w = v) (upd (upd H dA (.dT (putK kvs (keyR v) (g t)))) G (.lst (cs.map V.ref ++ [V.ref q]))) := by
  have nGd : G ≠ dA := ne_of hG B.hd (fun z => nomatch z)
  have ned : eA ≠ dA := ne_of B.he B.hd (fun z => nomatch z)
  have nld : lE ≠ dA := ne_of B.hl B.hd (fun z => nomatch z)
  have ts1 : TS H (upd H dA (.dT (putK kvs (keyR v) (g t)))) := ts_dT B.hd
  have hG1 : (upd H dA (.dT (putK kvs (keyR v) (g t)))) G = some (.lst (cs.map V.ref)) := by rw [upd_ne nGd]; exact hG
  have ts2 := ts1.trans (ts_lst (o := .lst (cs.map V.ref ++ [V.ref q])) hG1)
  have hF : F v = none := by
    have := B.val v
    rw [hv] at this
    cases e : F v with
    | none => rfl
    | some d => rw [e] at this; cases this
  refine ⟨fun w => if w = v then some t else F w, _, ks ++ [v], cs ++ [q], later ++ [v], ⟨same_upd (same_upd B.same d0) g0, by rw [upd_ne nGd.symm, upd_same], B.di.put _ hv, fun w hw => ?_, fun w => ?_, by rw [upd_ne nGe.symm, upd_ne ned]; exact B.he, B.re.ts ts2, by rw [upd_ne nGl.symm, upd_ne nld]; exact B.hl, B.xl.ts ts2⟩, by rw [upd_same, List.map_append]; rfl, (hR.ts ts2).snoc (hq.ts ts2), M.more hu hs hF⟩
  · rcases List.mem_append.mp hw with hw | hw
    · exact B.good w hw
    · rw [List.mem_singleton] at hw; rw [hw]; exact gv
  · rw [val_put]
    by_cases e : w = v
    · rw [if_pos e, if_pos e]; rfl
    · rw [if_neg e, if_neg e]; exact B.val w
theorem BBase.old {H0 : Hp} {n : Nat} {g : Nat → V} {S : List Int → Prop} {t : Nat} {F : List Int → Option Nat} {dA eA lE G : Addr} {es : List (Nat × Nat × Nat)} {lbs bs cs : List Addr} {edge later : List (List Int)} {P : List Int → Prop} {kvs : List (List Key × V)} {ks : List (List Int)} {H : Hp}
    (B : BBase H0 n g F dA eA lE es lbs bs edge kvs ks H) (hG : H G = some (.lst (cs.map V.ref))) (hR : Rows H cs later) (M : Mid S t F edge later P) {v : List Int} (hv : valV kvs (keyR v) ≠ none) :
    BSt H0 n g S t dA eA lE G es lbs bs edge (fun w => P w ∨ w = v) H := by
  refine ⟨F, kvs, ks, cs, later, B, hG, hR, M.same fun e => hv ?_⟩
  rw [B.val v, e]; rfl
theorem ex_of_all {n : Nat} {es : List (Nat × Nat × Nat)} (h : AllEx n es) {u v : List Int} (hu : u.length = n) (hs : Stp u v) : ∃ e ∈ es, v = ex u e.1 e.2.1 e.2.2 := by
  obtain ⟨a, b, c, h1, h2, h3, rfl⟩ := ex_stp hs
  exact ⟨(a, b, c), (h a b c).mpr ⟨h1, h2, by omega⟩, rfl⟩
theorem take_mem_succ {α : Type} {l : List α} {i : Nat} {x y : α} (h : l[i]? = some x) : y ∈ l.take (i + 1) ↔ y ∈ l.take i ∨ y = x := by
  rw [List.take_add_one, h, Option.toList_some, List.mem_append, List.mem_singleton]
section
variable {P : Program} {w : World} {K : PySem.W.Frag} {mg : Str → Option Value} {base : Heap}
def spLevels : Sp := fun vs H Q _ => ∃ (p : Addr) (r : List Int) (n : Nat), vs = [.ref p, .int n] ∧ RowAt H p r ∧ r.length ≤ 60 ∧ Lets r ∧ 1 ≤ n ∧ n ≤ 5 ∧
  ∀ (d : Addr) (kvs : List (List Key × V)) H', Same H H' → H' d = some (.dT kvs) → (∀ o : List Int, o.length = n → (∀ l ∈ o, l ∈ r) → ∀ k, IsD r o k → valV kvs (keyR o) = some (.int k)) → Q (.ref d) H'
abbrev nLevels : List Str := ["_law_row_here", "_law_lanes", "_law_every", "_law_out", "_law_found", "_law_edge", "_law_turn", "_law_later", "_law_a", "_law_b", "_law_c", "_law_there"]
theorem scLevels : FnScope nLevels ["_law_row_here", "_law_lanes"] (defScope sLevels) := ⟨rfl, rfl, rfl, by decide +kernel, rfl, by decide +kernel, by decide +kernel⟩
theorem thin_filter {rs : List (List Int)} {r : List Int} {i : Nat} {u : List Int} (h : rs[i]? = some u) : (rs.take (i + 1)).filter (thinB r) = (rs.take i).filter (thinB r) ++ if thinB r u = true then [u] else [] := by
  rw [List.take_add_one, h, Option.toList_some, List.filter_append]
  by_cases e : thinB r u = true
  · rw [if_pos e]; simp [e]
  · rw [if_neg e]; simp [e]
theorem ok_Levels {f : Addr} {fd : FuncData} (T : Txt K mg) (F : Fun K "_law_levels" "_law_levels" sLevels f fd) : FnOk P w K mg base CX0 3 f fd ["_law_row_here", "_law_lanes"] spLevels := by
  obtain ⟨fLExchanges, fdLExchanges, FLExchanges, mLExchanges, bLExchanges⟩ := T.lExchanges
  have GLExchanges := ok_LExchanges (P := P) (w := w) (base := base) T FLExchanges
  obtain ⟨fRows, fdRows, FRows, mRows, bRows⟩ := T.rows
  have GRows := ok_Rows (P := P) (w := w) (base := base) T FRows
  obtain ⟨fThins, fdThins, FThins, mThins, bThins⟩ := T.thins
  have GThins := ok_Thins (P := P) (w := w) (base := base) T FThins
  obtain ⟨fLExchanged, fdLExchanged, FLExchanged, mLExchanged, bLExchanged⟩ := T.lExchanged
  have GLExchanged := ok_LExchanged (P := P) (w := w) (base := base) T FLExchanged
  refine F.ok scLevels (fun vs H Q E h => ?_) (fun cdv A outer s H vs Q E hr h => ?_)
  · obtain ⟨p, r, n, rfl, _⟩ := h
    rfl
  · obtain ⟨p, r, n, rfl, hp, hrl, hrL, hn1, hn5, k⟩ := h
    have hn9 : n ≤ 9 := by omega
    refine ⟨_, (pss_cons (ps_set (i := 2) scLevels.nd rfl (Or.inl rfl) (pe_call GLExchanges (hr.mono (by decide)) (by rfl) mLExchanges FLExchanges.kp bLExchanges .nil pass0 (pa_cons (pv 1) pa_nil)))
    (pss_cons (ps_set (i := 4) scLevels.nd rfl (Or.inl rfl) (pe_callTy (call_dictT rfl (hu2_of hr)) (by rfl) T.b_dict (by decide +kernel) (pa_cons (pe_lc (own := [("_law_out", 3)]) (g := gName 3) rfl scLevels.nd (pi_list (pe_call GRows (hr.mono (by decide)) (by rfl) mRows FRows.kp bRows .nil pass0 (pa_cons (pe_callB (cr_sortedSet rfl) (by rfl) T.b_sorted (by decide +kernel) (pa_cons (pe_callTy (call_setI rfl) (by rfl) T.b_set (by decide +kernel) (pa_cons (pv 0) pa_nil)) pa_nil)) (pa_cons (pv 1) pa_nil)))) (blkOk_by (N := nLevels) (sc := defScope sLevels) (by decide +kernel)) (fun _ _ _ _ _ => (pg_name (i := 3) scLevels.nd rfl (Or.inl rfl))) (fun _ _ _ _ _ => pts_one (pt_val (pe_call GThins (hr.mono (by decide)) (by rfl) mThins FThins.kp bThins .nil pass0 (pa_cons (pv 0) (pa_cons (pv 3) pa_nil))))) (fun _ _ _ _ _ => (pe_tup (pa_cons (pv 3) (pa_cons pe_int pa_nil))))) pa_nil)))
    (pss_cons (ps_set (i := 5) scLevels.nd rfl (Or.inl rfl) (pe_callTy (call_list_dT rfl) (by rfl) T.b_list (by decide +kernel) (pa_cons (pv 4) pa_nil)))
    (pss_cons (ps_for PassesOwn.never rfl (pi_range2 (by rfl) T.b_range (pa_cons pe_int (pa_cons (pe_op op_add (pv 1) pe_int) pa_nil))) (pg_name (i := 6) scLevels.nd rfl (Or.inl rfl))
      (pss_cons (ps_set (i := 7) scLevels.nd rfl (Or.inl rfl) (pe_lst pa_nil))
    (pss_cons (ps_for PassesOwn.never rfl (pi_list (pv 5)) (pg_name (i := 3) scLevels.nd rfl (Or.inl rfl))
      (pss_one (ps_for PassesOwn.never rfl (pi_list (pv 2)) (pg_tup rfl (pgs_cons (pg_name (i := 8) scLevels.nd rfl (Or.inl rfl)) (pgs_cons (pg_name (i := 9) scLevels.nd rfl (Or.inl rfl)) (pgs_cons (pg_name (i := 10) scLevels.nd rfl (Or.inl rfl)) pgs_nil))))
      (pss_cons (ps_set (i := 11) scLevels.nd rfl (Or.inl rfl) (pe_call GLExchanged (hr.mono (by decide)) (by rfl) mLExchanged FLExchanged.kp bLExchanged .nil pass0 (pa_cons (pv 3) (pa_cons (pv 8) (pa_cons (pv 9) (pa_cons (pv 10) pa_nil))))))
    (pss_one (ps_if (pt_cmp (pc_dnotin (hu_of hr) (pv 11) (pv 4)) (by with_unfolding_all rfl)) (pss_cons (ps_dput (hu_of hr) (pv 4) (pv 11) (pv 6) rfl)
    (pss_one (ps_expr (pe_bm PySem.F.plainAttrs_list PySem.F.slot_list_append PySem.F.type_list_append mt_append (pv 7) (pa_cons (pv 11) pa_nil))))) pss_nil))))))
    (pss_one (ps_set (i := 5) scLevels.nd rfl (Or.inl rfl) (pv 7))))))
    (pss_one (ps_ret (pv 4))))))), ?_⟩
    refine ⟨_, rfl, n, rfl, hn1, hn9, fun lE lbs es H1 s1 hlE0 hlE hex _ hes => ?_⟩
    -- the table of all thinnings
    refine ⟨_, rfl, p, r, rfl, (hp.same s1).sq, by omega, fun sA c hsA hc => ?_⟩
    refine ⟨sA, _, c, rfl, upd_same, ?_, fun ls tA hls hmem hlen htA => ?_⟩
    · omega
    have hls4 : ls.length ≤ 4 := by
      have hnd : ls.Nodup := List.Pairwise.imp (fun {a b} h e => by omega) hls
      refine nodup_le (m := [0, 1, 2, 3]) hnd fun x hx => ?_
      have := hrL x (by simpa using (hmem x).mp hx)
      have : x = 0 ∨ x = 1 ∨ x = 2 ∨ x = 3 := by omega
      rcases this with rfl | rfl | rfl | rfl <;> simp
    have hlsr : ∀ x, x ∈ ls ↔ x ∈ r := fun x => by simpa using hmem x
    have lsnd : ls.Nodup := List.Pairwise.imp (fun {a b} h e => by omega) hls
    refine ⟨_, rfl, tA, ls, n, rfl, upd_same, hls4, by omega, fun aR bR H2 s2 haR0 haR hRR => ?_⟩
    have s12 : Same H1 H2 := ((same_new hsA).trans (same_new htA)).trans s2
    refine ⟨aR, rfl, ⟨_, SqL.of haR⟩, fun D hD => lc_list (K := K) (a := aR) (xs := bR.map V.ref) (fun i H' => ∃ (ps : List Addr) (kvs : List (List Key × V)), Same H2 H' ∧ H' D = some (.lst (ps.map V.ref)) ∧ ps.length ≤ i ∧
      Paired (fun p kv => ∃ b, H' p = some (.tup [.ref b, kv.2]) ∧ H' b = some (.tup (kv.1.map kV))) ps kvs ∧ kvs = (((rowsL ls n).take i).filter (thinB r)).map fun u => (keyR u, V.int 0))
      ⟨[], [], same_new hD, upd_same, Nat.le_refl _, .nil, by simp⟩ (fun i H' _ ⟨_, _, q, _⟩ => SqL.of (q _ _ haR)) ?_ ?_⟩
    · rintro i y H3 hy ⟨ps, kvs, q1, q2, q3, q4, q5⟩
      obtain ⟨b, hb, rfl⟩ := at_map hy
      obtain ⟨u, hu, hub⟩ := hRR.at hb
      obtain ⟨hul, hum⟩ := mem_rowsL.mp (List.mem_of_getElem? hu)
      have hi : i < 4096 := by
        have h1 := (List.getElem?_eq_some_iff.mp hu).1
        have h2 := length_rowsL hls4 n
        have h3 : (4 : Nat) ^ n ≤ 4 ^ 5 := Nat.pow_le_pow_right (by decide) hn5
        have h4 : (4 : Nat) ^ 5 = 1024 := by decide
        omega
      refine ⟨rfl, ?_⟩
      refine ⟨_, rfl, _, rfl, p, b, r, u, rfl, ((hp.same s1).same s12).same q1, hub.same q1, by omega, by omega, fun H4 s4 => ⟨_, rfl, ?_⟩⟩
      have tf := thin_filter (r := r) hu
      have p4 : Paired (fun p kv => ∃ b, H4 p = some (.tup [.ref b, kv.2]) ∧ H4 b = some (.tup (kv.1.map kV))) ps kvs := Paired.mapP q4 fun _ _ ⟨b, h1, h2⟩ => ⟨b, s4 _ _ h1, s4 _ _ h2⟩
      have hD4 := s4 _ _ q2
      refine ite2 (fun c1 => ?_) (fun c1 => ?_)
      · refine ⟨_, rfl, (by show 2 ≤ sizeLine; decide), fun t ht => ?_⟩
        have nDt : D ≠ t := ne_of_none hD4 ht
        have hub4 := (hub.same q1).same s4
        refine ⟨_, Eq.trans (upd_ne nDt) hD4, ?_, ps ++ [t], kvs ++ [(keyR u, V.int 0)], same_upd ((q1.trans s4).trans (same_new ht)) hD, by rw [upd_same, List.map_append]; rfl, by rw [List.length_append]; simpa using q3, ?_, ?_⟩
        · rw [List.length_map, sizeLine_eq]; omega
        · have tsD : TS H4 (upd (upd H4 t (.tup [.ref b, .int 0])) D (.lst (ps.map V.ref ++ [V.ref t]))) := (ts_new ht).trans (ts_lst (Eq.trans (upd_ne nDt) hD4))
          refine Paired.snoc (Paired.mapP p4 fun _ _ ⟨b, h1, h2⟩ => ⟨b, tsD _ _ h1, tsD _ _ h2⟩) ⟨b, ?_, tsD _ _ hub4.key⟩
          rw [upd_ne nDt.symm, upd_same]
        · rw [tf, if_pos c1, List.map_append, q5]; rfl
      · exact ⟨ps, kvs, q1.trans s4, hD4, by omega, p4, by rw [tf, if_neg c1, List.append_nil, q5]⟩
    rintro H3 ⟨ps, kvs0, q1, q2, q3, q4, q5⟩
    rw [List.length_map, hRR.length, List.take_length] at q5
    refine ⟨D, ps, kvs0, rfl, SqL.of q2, q4, fun dA hdA => ?_⟩
    -- the first level: all thinnings
    have hT0 : ∀ v, v ∈ (rowsL ls n).filter (thinB r) ↔ (v.length = n ∧ (∀ l ∈ v, l ∈ r) ∧ thinB r v = true) := fun v => by
      rw [List.mem_filter, mem_rowsL]
      constructor
      · rintro ⟨⟨h1, h2⟩, h3⟩; exact ⟨h1, fun l hl => (hlsr l).mp (h2 l hl), h3⟩
      · rintro ⟨h1, h2, h3⟩; exact ⟨⟨h1, fun l hl => (hlsr l).mpr (h2 l hl)⟩, h3⟩
    have hT1 : ((rowsL ls n).filter (thinB r)).Nodup := List.Nodup.sublist List.filter_sublist (nodup_rowsL lsnd n)
    generalize (rowsL ls n).filter (thinB r) = T0 at hT0 hT1 q5
    have di0 : DictIs kvs0 T0 := by
      refine ⟨?_, hT1⟩
      rw [q5, List.map_map]; rfl
    have em : mergeT [] kvs0 = kvs0 := by
      have := merge_app kvs0 [] (by
        rw [List.nil_append, di0.keys]
        unfold List.Nodup
        rw [List.pairwise_map]
        exact List.Pairwise.imp (fun {a b} h e => h (keyR_inj e)) hT1)
      simpa using this
    rw [em]
    have s03 : Same H H3 := (s1.trans s12).trans q1
    have hd0 : H dA = none := s03.free hdA
    refine ⟨_, rfl, dA, kvs0, rfl, Rd.of upd_same, fun eA bs heA hIK => ?_⟩
    have nde : dA ≠ eA := by
      intro e
      rw [e, upd_same] at heA
      cases heA
    have heA3 : H3 eA = none := by rw [upd_ne nde.symm] at heA; exact heA
    have sde : Same H3 (upd (upd H3 dA (.dT kvs0)) eA (.lst (bs.map V.ref))) := (same_new hdA).trans (same_new heA)
    have val0 : ∀ v, valV kvs0 (keyR v) = (if v ∈ T0 then some 0 else none).map fun d : Nat => V.int d := fun v => by
      by_cases hv : v ∈ T0
      · rw [if_pos hv]
        cases e : valV kvs0 (keyR v) with
        | none => exact (di0.none.mp e hv).elim
        | some x =>
          have hx : x = V.int 0 := by
            unfold valV at e
            obtain ⟨kv, h1, h2⟩ := Option.map_eq_some_iff.mp e
            have h3 := List.mem_of_find?_eq_some h1
            rw [q5] at h3
            obtain ⟨u, _, h4⟩ := List.mem_map.mp h3
            rw [← h2, ← h4]
          rw [hx]; rfl
      · rw [if_neg hv]
        exact di0.none.mpr hv
    have B0 : BBase H n (fun d : Nat => V.int d) (fun v => if v ∈ T0 then some 0 else none) dA eA lE es lbs bs T0 kvs0 T0 (upd (upd H3 dA (.dT kvs0)) eA (.lst (bs.map V.ref))) := by
      refine ⟨s03.trans sde, by rw [upd_ne nde, upd_same], di0, fun u hu => ?_, val0, upd_same, ?_, sde _ _ (q1 _ _ (s12 _ _ hlE)), (hex.ts (Same.ts (s12.trans q1))).ts (Same.ts sde)⟩
      · obtain ⟨h1, h2, _⟩ := (hT0 u).mp hu
        exact ⟨h1, fun l hl => hrL l (h2 l hl)⟩
      · have go : ∀ {kvs : List (List Key × V)} {bs : List Addr} {T : List (List Int)} {H' H'' : Hp}, TS H' H'' → IsKeys H' kvs bs → kvs.map (·.1) = T.map keyR → Rows H'' bs T := by
          intro kvs bs T H' H'' ts hk
          unfold IsKeys at hk
          induction hk generalizing T with
          | nil => intro e; cases T with
            | nil => exact .nil
            | cons _ _ => cases e
          | @cons a b l1 l2 h t ih => intro e; cases T with
            | nil => cases e
            | cons u T =>
              rw [List.map_cons, List.map_cons] at e
              injection e with e1 e2
              refine .cons ?_ (ih e2)
              rw [e1, keyR_kV] at h
              exact ts _ _ h
        exact go (ts_new heA) hIK di0.keys
    let S : List Int → Prop := fun v => v.length = n ∧ (∀ l ∈ v, l ∈ r) ∧ thinB r v = true
    have L0 : Lvl S 0 (fun v => if v ∈ T0 then some 0 else none) T0 := lvl_zero (fun v => rfl) hT0 hT1
    refine ⟨_, rfl, _, _, rfl, rfl, 1, _, rfl, ⟨by omega, by omega, by omega, by omega⟩, for_range (fun i σ H' => ∃ (vo v6 v7 v8 v9 v10 v11 : Option V) (eA : Addr) (bs : List Addr) (F : List Int → Option Nat) (edge : List (List Int)) (kvs : List (List Key × V)) (ks : List (List Int)),
      σ = [some (.ref p), some (.int n), some (.ref lE), vo, some (.ref dA), some (.ref eA), v6, v7, v8, v9, v10, v11] ∧ BBase H n (fun d : Nat => V.int d) F dA eA lE es lbs bs edge kvs ks H' ∧ Lvl S i F edge)
      ⟨_, _, _, _, _, _, _, eA, bs, _, T0, kvs0, T0, rfl, B0, L0⟩ ?_ ?_⟩
    · rintro i σ H1' hi ⟨vo, v6, v7, v8, v9, v10, v11, eA, bs, F, edge, kvs, ks, rfl, B, L⟩
      have edgeGood : ∀ u ∈ edge, Good n u := fun u hu => B.good u (B.mem ((L.edg u).mp hu))
      refine ⟨Nat.zero_le _, fun G hG => ?_⟩

      have nGe : G ≠ eA := Ne.symm (ne_of_none B.he hG)
      have nGl : G ≠ lE := Ne.symm (ne_of_none B.hl hG)
      have hG0 : H G = none := B.same.free hG
      refine ⟨_, rfl, eA, rfl, ⟨_, SqL.of (Eq.trans (upd_ne nGe.symm) B.he)⟩, for_list (K := K) (a := eA) (xs := bs.map V.ref) (fun j σ H' => ∃ (vo v8 v9 v10 v11 : Option V), σ = [some (.ref p), some (.int n), some (.ref lE), vo, some (.ref dA), some (.ref eA), some (.int (1 + (i : Int))), some (.ref G), v8, v9, v10, v11] ∧
        BSt H n (fun d : Nat => V.int d) S (i + 1) dA eA lE G es lbs bs edge (fun v => ∃ u ∈ edge.take j, Stp u v) H')
        ⟨_, _, _, _, _, rfl, F, kvs, ks, [], [], B.keep (same_new hG), upd_same, .nil, L.mid.weak fun v ⟨u, hu, _⟩ => by simp at hu⟩ (fun j σ H' _ ⟨_, _, _, _, _, _, _, _, _, _, _, q, _⟩ => SqL.of q.he) ?_ ?_⟩
      · rintro j y σ H2 hy ⟨vo, v8, v9, v10, v11, rfl, Q2⟩
        obtain ⟨b, hb, rfl⟩ := at_map hy
        obtain ⟨F2, kvs2, ks2, cs2, later2, B2, _, _, M2⟩ := id Q2
        obtain ⟨u, hu, hub⟩ := B2.re.at hb
        have hum := List.mem_of_getElem? hu
        have gu : Good n u := edgeGood u hum
        refine ⟨_, rfl, lE, rfl, ⟨_, SqL.of B2.hl⟩, for_list (K := K) (a := lE) (xs := lbs.map V.ref) (fun m σ H' => ∃ (v8 v9 v10 v11 : Option V), σ = [some (.ref p), some (.int n), some (.ref lE), some (.ref b), some (.ref dA), some (.ref eA), some (.int (1 + (i : Int))), some (.ref G), v8, v9, v10, v11] ∧
          BSt H n (fun d : Nat => V.int d) S (i + 1) dA eA lE G es lbs bs edge (fun v => (∃ u ∈ edge.take j, Stp u v) ∨ ∃ e ∈ es.take m, v = ex u e.1 e.2.1 e.2.2) H' ∧ RowAt H' b u)
          ⟨_, _, _, _, rfl, Q2.weak fun v hv => hv.elim id (fun ⟨e, he, _⟩ => by simp at he), hub⟩ (fun m σ H' _ ⟨_, _, _, _, _, ⟨_, _, _, _, _, q, _⟩, _⟩ => SqL.of q.hl) ?_ ?_⟩
        · rintro m z σ H3 hz ⟨v8, v9, v10, v11, rfl, Q3, hub3⟩
          obtain ⟨eb, heb, rfl⟩ := at_map hz
          obtain ⟨F3, kvs3, ks3, cs3, later3, B3, hG3, hR3, M3⟩ := id Q3
          obtain ⟨e, he, hee⟩ := B3.xl.at heb
          obtain ⟨a, b', c⟩ := e
          have hem := List.mem_of_getElem? he
          obtain ⟨x1, x2, x3⟩ := (hes a b' c).mp hem
          refine ⟨eb, _, rfl, SqT.of hee, rfl, _, _, rfl, _, _, rfl, _, _, rfl, rfl, ?_⟩
          refine ⟨_, rfl, _, rfl, _, rfl, _, rfl, b, u, a, b', c, rfl, hub3, by rw [gu.1]; omega, x1, x2, by rw [gu.1]; exact x3, fun q H4 s4 hq => ?_⟩
          have B4 := B3.keep s4
          have hst : Stp u (ex u a b' c) := stp_ex x1 x2 (by rw [gu.1]; exact x3)
          refine ⟨_, rfl, _, rfl, dA, _, rfl, DGet.t B4.hd hq.key, _, rfl, ?_⟩
          have wk : ∀ v, ((∃ u ∈ edge.take j, Stp u v) ∨ ∃ e ∈ es.take (m + 1), v = ex u e.1 e.2.1 e.2.2) → (((∃ u ∈ edge.take j, Stp u v) ∨ ∃ e ∈ es.take m, v = ex u e.1 e.2.1 e.2.2) ∨ v = ex u a b' c) := by
            rintro v (h | ⟨e, h, hv⟩)
            · exact .inl (.inl h)
            · rcases (take_mem_succ he).mp h with h | h
              · exact .inl (.inr ⟨e, h, hv⟩)
              · rw [h] at hv; exact .inr hv
          cases hv : valV kvs3 (keyR (ex u a b' c)) with
          | some v =>
            refine iteF ?_
            exact ⟨_, _, _, _, rfl, (B4.old (s4 _ _ hG3) (hR3.ts (Same.ts s4)) M3 (by rw [hv]; exact fun z => nomatch z)).weak wk, hub3.same s4⟩
          | none =>
            refine iteT ?_
            have nGd : G ≠ dA := ne_of hG3 B3.hd (fun z => nomatch z)
            have new := B4.new (s4 _ _ hG3) (hR3.ts (Same.ts s4)) M3 hd0 hG0 nGe nGl hq hum hst (hst.good gu) hv
            have sz3 : cs3.length < sizeLine := by
              rw [hR3.length]
              refine Nat.lt_of_le_of_lt (nodup_le M3.nd fun x hx => B3.mem ((M3.ltr x).mp hx)) ?_
              rw [← B3.di.len]; exact B3.size hn9
            refine ⟨_, rfl, _, rfl, _, rfl, dA, _, rfl, DPut.t (v := .int (1 + (i : Int))) B4.hd hq.key (B4.size hn9), ?_⟩
            refine ⟨_, rfl, .inl ⟨rfl, _, SqL.of (Eq.trans (upd_ne nGd) (s4 _ _ hG3))⟩, _, rfl, G, _, _, rfl, rfl, Eq.trans (upd_ne nGd) (s4 _ _ hG3), by rw [List.length_map]; exact sz3, ?_⟩
            refine ⟨_, _, _, _, rfl, BSt.weak (by have e : (1 : Int) + (i : Int) = ((i + 1 : Nat) : Int) := by omega
                                                  rw [e]; exact new) wk, ?_⟩
            have hb4 := hub3.same s4
            have t1 : TS H4 (upd H4 dA (.dT (putK kvs3 (keyR (ex u a b' c)) (.int (1 + (i : Int)))))) := ts_dT B4.hd
            exact (hb4.ts t1).ts (ts_lst (Eq.trans (upd_ne nGd) (s4 _ _ hG3)))
        · rintro σ H3 ⟨v8, v9, v10, v11, rfl, Q3, hub3⟩
          refine ⟨_, _, _, _, _, rfl, Q3.weak ?_⟩
          rintro v ⟨u', hu', hv⟩
          rcases (take_mem_succ hu).mp hu' with h | h
          · exact .inl ⟨u', h, hv⟩
          · rw [h] at hv
            obtain ⟨e, h1, h2⟩ := ex_of_all hes gu.1 hv
            refine .inr ⟨e, ?_, h2⟩
            rw [List.length_map, B2.xl.length, List.take_length]
            exact h1
      · rintro σ H2 ⟨vo, v8, v9, v10, v11, rfl, F2, kvs2, ks2, cs2, later2, B2, hG2, hR2, M2⟩
        have L2' : Lvl S (i + 1) F2 later2 := M2.lvl fun u v hu hs => by
          rw [List.length_map, B2.re.length, List.take_length]
          exact ⟨u, hu, hs⟩

        exact ⟨_, rfl, _, _, _, _, _, _, _, G, cs2, F2, later2, kvs2, ks2, rfl, { B2 with he := hG2, re := hR2 }, L2'⟩
    · rintro σ H1' ⟨vo, v6, v7, v8, v9, v10, v11, eA, bs, F, edge, kvs, ks, rfl, B, L⟩
      refine ⟨_, rfl, k dA kvs H1' B.same B.hd fun o ho hor d hd => ?_⟩
      have hdn : d ≤ n := by
        obtain ⟨d', h1, h2⟩ := isD_some hor
        rw [hd.uniq h2]; omega
      have hD := dist_isD (S := S) (fun t => by rw [ho]) hd
      have e := L.cmp o d hD (by omega)
      rw [B.val o, e]; rfl
end
end K17
namespace K17
open PySem L2
section
variable {P : Program} {w : World} {K : PySem.W.Frag} {mg : Str → Option Value} {base : Heap}
def spNumber : Sp := fun vs H Q _ => ∃ (p q : Addr) (r o : List Int), vs = [.ref p, .ref q] ∧ RowAt H p r ∧ RowAt H q o ∧ r.length ≤ 1000 ∧ 1 ≤ o.length ∧ o.length ≤ 9 ∧ Lets o ∧ (∀ l ∈ o, l ∈ r) ∧
  ∀ (d : Nat) H', Same H H' → IsD r o d → Q (.int d) H'
abbrev nNumber : List Str := ["_law_row_here", "_law_out", "_law_edge", "_law_known", "_law_every", "_law_number_here", "_law_there", "_law_later", "_law_a", "_law_b", "_law_c", "_law_goal"]
theorem scNumber : FnScope nNumber ["_law_row_here", "_law_out"] (defScope sNumber) := ⟨rfl, rfl, rfl, by decide +kernel, rfl, by decide +kernel, by decide +kernel⟩
theorem ok_Number {f : Addr} {fd : FuncData} (T : Txt K mg) (F : Fun K "_law_number" "_law_number" sNumber f fd) : FnOk P w K mg base CX0 3 f fd ["_law_row_here", "_law_out"] spNumber := by
  obtain ⟨fLExchanges, fdLExchanges, FLExchanges, mLExchanges, bLExchanges⟩ := T.lExchanges
  have GLExchanges := ok_LExchanges (P := P) (w := w) (base := base) T FLExchanges
  obtain ⟨fThins, fdThins, FThins, mThins, bThins⟩ := T.thins
  have GThins := ok_Thins (P := P) (w := w) (base := base) T FThins
  obtain ⟨fLExchanged, fdLExchanged, FLExchanged, mLExchanged, bLExchanged⟩ := T.lExchanged
  have GLExchanged := ok_LExchanged (P := P) (w := w) (base := base) T FLExchanged
  refine F.ok scNumber (fun vs H Q E h => ?_) (fun cdv A outer s H vs Q E hr h => ?_)
  · obtain ⟨p, q, r, o, rfl, _⟩ := h
    rfl
  · obtain ⟨p, q, r, o, rfl, hp, hq, hrl, ho1, ho9, hoL, hor, k⟩ := h
    obtain ⟨n, hn⟩ : ∃ n, n = o.length := ⟨_, rfl⟩
    have hn9 : n ≤ 9 := by omega
    refine ⟨_, (pss_cons (ps_set (i := 2) scNumber.nd rfl (Or.inl rfl) (pe_lst (pa_cons (pv 1) pa_nil)))
    (pss_cons (ps_set (i := 3) scNumber.nd rfl (Or.inl rfl) (pe_dispT (hu_of hr) (pv 1) pe_bl))
    (pss_cons (ps_set (i := 4) scNumber.nd rfl (Or.inl rfl) (pe_call GLExchanges (hr.mono (by decide)) (by rfl) mLExchanges FLExchanges.kp bLExchanges .nil pass0 (pa_cons (pe_callB call_len_seq (by rfl) T.b_len (by decide +kernel) (pa_cons (pv 1) pa_nil)) pa_nil)))
    (pss_cons (ps_for PassesOwn.never rfl (pi_range1 (by rfl) T.b_range (pa_cons (pe_callB call_len_seq (by rfl) T.b_len (by decide +kernel) (pa_cons (pv 1) pa_nil)) pa_nil)) (pg_name (i := 5) scNumber.nd rfl (Or.inl rfl))
      (pss_cons (ps_if (pt_val (pe_callB (cr_any rfl) (by rfl) T.b_any (by decide +kernel) (pa_cons (pe_lc (own := [("_law_there", 6)]) (g := gName 6) (tt := tYes) rfl scNumber.nd (pi_list (pv 2)) (blkOk_by (N := nNumber) (sc := defScope sNumber) (by decide +kernel)) (fun _ _ _ _ _ => (pg_name (i := 6) scNumber.nd rfl (Or.inl rfl))) (fun _ _ _ _ _ => pts_nil) (fun _ _ _ _ _ => (pe_call GThins (hr.mono (by decide)) (by rfl) mThins FThins.kp bThins .nil pass0 (pa_cons (pv 0) (pa_cons (pv 6) pa_nil))))) pa_nil))) (pss_one (ps_ret (pv 5))) pss_nil)
    (pss_cons (ps_set (i := 7) scNumber.nd rfl (Or.inl rfl) (pe_lst pa_nil))
    (pss_cons (ps_for PassesOwn.never rfl (pi_list (pv 2)) (pg_name (i := 6) scNumber.nd rfl (Or.inl rfl))
      (pss_one (ps_for PassesOwn.never rfl (pi_list (pv 4)) (pg_tup rfl (pgs_cons (pg_name (i := 8) scNumber.nd rfl (Or.inl rfl)) (pgs_cons (pg_name (i := 9) scNumber.nd rfl (Or.inl rfl)) (pgs_cons (pg_name (i := 10) scNumber.nd rfl (Or.inl rfl)) pgs_nil))))
      (pss_cons (ps_set (i := 11) scNumber.nd rfl (Or.inl rfl) (pe_call GLExchanged (hr.mono (by decide)) (by rfl) mLExchanged FLExchanged.kp bLExchanged .nil pass0 (pa_cons (pv 6) (pa_cons (pv 8) (pa_cons (pv 9) (pa_cons (pv 10) pa_nil))))))
    (pss_one (ps_if (pt_cmp (pc_dnotin (hu_of hr) (pv 11) (pv 3)) (by with_unfolding_all rfl)) (pss_cons (ps_dput (hu_of hr) (pv 3) (pv 11) pe_bl rfl)
    (pss_one (ps_expr (pe_bm PySem.F.plainAttrs_list PySem.F.slot_list_append PySem.F.type_list_append mt_append (pv 7) (pa_cons (pv 11) pa_nil))))) pss_nil))))))
    (pss_one (ps_set (i := 2) scNumber.nd rfl (Or.inl rfl) (pv 7)))))))
    (pss_one (ps_ret (pe_callB call_len_seq (by rfl) T.b_len (by decide +kernel) (pa_cons (pv 1) pa_nil)))))))), ?_⟩
    refine ⟨_, rfl, (by show 1 ≤ sizeLine; decide), fun eA heA => ?_⟩
    refine fun dA hdA => ⟨_, rfl, upd_same, q, keyR o, rfl, ?_, ?_⟩
    · exact ((hq.same (same_new heA)).same (same_new hdA)).key
    have nde : dA ≠ eA := by
      intro e
      rw [e, upd_same] at hdA
      cases hdA
    have hd0 : H dA = none := by rw [upd_ne nde] at hdA; exact hdA
    have s1 : Same H (upd (upd (upd H eA (.lst [.ref q])) dA (.dT [])) dA (.dT [(keyR o, .bl true)])) := by
      rw [upd_upd]
      exact (same_new heA).trans (same_new hdA)
    have heA1 : (upd (upd (upd H eA (.lst [.ref q])) dA (.dT [])) dA (.dT [(keyR o, .bl true)])) eA = some (.lst [.ref q]) := by
      rw [upd_upd, upd_ne nde.symm, upd_same]
    have hdA1 : (upd (upd (upd H eA (.lst [.ref q])) dA (.dT [])) dA (.dT [(keyR o, .bl true)])) dA = some (.dT [(keyR o, .bl true)]) := upd_same
    generalize (upd (upd (upd H eA (.lst [.ref q])) dA (.dT [])) dA (.dT [(keyR o, .bl true)])) = H1 at s1 heA1 hdA1
    refine ⟨_, rfl, q, _, rfl, .inr (hq.same s1).sq, n, ?_, by omega, hn9, fun lE lbs es H2 s2 hlE0 hlE hex _ hes => ?_⟩
    · rw [List.length_map, hn]; rfl
    have s12 := s1.trans s2
    let S : List Int → Prop := fun v => v = o
    have B0 : BBase H n (fun _ : Nat => V.bl true) (fun v => if v ∈ [o] then some 0 else none) dA eA lE es lbs [q] [o] [(keyR o, .bl true)] [o] H2 := by
      refine ⟨s12, s2 _ _ hdA1, ⟨rfl, by simp⟩, fun u hu => ?_, fun v => ?_, s2 _ _ heA1, .cons (hq.same s12) .nil, hlE, hex⟩
      · rw [List.mem_singleton] at hu; rw [hu]; exact ⟨hn.symm, hoL⟩
      · by_cases e : v = o
        · rw [e, valV_pos rfl, if_pos (by simp)]; rfl
        · rw [valV_neg (fun z => e (keyR_inj z).symm), valV_nil, if_neg (by simpa using e)]; rfl
    have L0 : Lvl S 0 (fun v => if v ∈ [o] then some 0 else none) [o] := lvl_zero (fun v => rfl) (fun v => by simp [S]) (by simp)
    refine ⟨_, rfl, q, _, rfl, .inr (hq.same s12).sq, _, rfl, ?_, ?_, for_range (fun i σ H' => ∃ (v5 v6 v7 v8 v9 v10 v11 : Option V) (eA : Addr) (bs : List Addr) (F : List Int → Option Nat) (edge : List (List Int)) (kvs : List (List Key × V)) (ks : List (List Int)),
      σ = [some (.ref p), some (.ref q), some (.ref eA), some (.ref dA), some (.ref lE), v5, v6, v7, v8, v9, v10, v11] ∧ BBase H n (fun _ : Nat => V.bl true) F dA eA lE es lbs bs edge kvs ks H' ∧ Lvl S i F edge ∧ ∀ j, j < i → ∀ v, Dist S v j → thinB r v = false)
      ⟨_, _, _, _, _, _, _, eA, [q], _, [o], _, [o], rfl, B0, L0, fun j hj => absurd hj (by omega)⟩ ?_ ?_⟩
    · rw [List.length_map]; omega
    · rw [List.length_map]; omega
    · rintro i σ H1' hi ⟨v5, v6, v7, v8, v9, v10, v11, eA, bs, F, edge, kvs, ks, rfl, B, L, hno⟩
      have edgeGood : ∀ u ∈ edge, Good n u := fun u hu => B.good u (B.mem ((L.edg u).mp hu))
      have hsz : edge.length ≤ 262144 := by
        have h1 := rows_le L.nd edgeGood
        have h2 : (4 : Nat) ^ n ≤ 4 ^ 9 := Nat.pow_le_pow_right (by decide) hn9
        have h3 : (4 : Nat) ^ 9 = 262144 := by decide
        omega
      refine ⟨_, rfl, eA, rfl, ⟨_, SqL.of B.he⟩, fun D hD => lc_list (K := K) (a := eA) (xs := bs.map V.ref) (fun m H' => Same H1' H' ∧ H' D = some (.lst (((edge.take m).map (thinB r)).map V.bl)))
        ⟨same_new hD, upd_same⟩ (fun m H' _ q => SqL.of (q.1 _ _ B.he)) ?_ ?_⟩
      · rintro m y H3 hy ⟨q1, q2⟩
        obtain ⟨b, hb, rfl⟩ := at_map hy
        obtain ⟨u, hu, hub⟩ := B.re.at hb
        have gu := edgeGood u (List.mem_of_getElem? hu)
        have hm := (List.getElem?_eq_some_iff.mp hu).1
        refine ⟨rfl, ?_⟩
        refine ⟨_, rfl, _, rfl, p, b, r, u, rfl, (hp.same B.same).same q1, hub.same q1, by rw [gu.1]; omega, by rw [gu.1]; omega, fun H4 s4 => ⟨_, s4 _ _ q2, ?_, same_upd (q1.trans s4) hD, ?_⟩⟩
        · rw [List.length_map, List.length_map, List.length_take, sizeLine_eq]; omega
        · rw [upd_same, List.take_add_one, hu, Option.toList_some, List.map_append, List.map_append]; rfl
      rintro H3 ⟨q1, q2⟩
      rw [List.length_map, B.re.length, List.take_length] at q2
      refine ⟨D, _, rfl, SqL.of q2, _, rfl, ?_⟩
      refine ite2 (fun c1 => ?_) (fun c1 => ?_)
      · obtain ⟨x, hx, hx2⟩ := List.any_eq_true.mp c1
        obtain ⟨v, hv, rfl⟩ := List.mem_map.mp hx
        have hD' := (L.snd v i ((L.edg v).mp hv)).1
        have key := number_isD hno hD' hx2
        have := k i H3 (B.same.trans q1) key
        refine ⟨_, rfl, ?_⟩
        rw [Int.zero_add]
        exact this
      replace B := B.keep q1
      have hno' : ∀ j, j < i + 1 → ∀ v, Dist S v j → thinB r v = false := fun j hj v hv => by
        by_cases e : j = i
        · subst e
          have hm : v ∈ edge := (L.edg v).mpr (L.cmp v j hv (Nat.le_refl _))
          cases ht : thinB r v with
          | false => rfl
          | true => exact (c1 (List.any_eq_true.mpr ⟨thinB r v, List.mem_map.mpr ⟨v, hm, rfl⟩, ht⟩)).elim
        · exact hno j (by omega) v hv
      refine ⟨Nat.zero_le _, fun G hG => ?_⟩

      have nGe : G ≠ eA := Ne.symm (ne_of_none B.he hG)
      have nGl : G ≠ lE := Ne.symm (ne_of_none B.hl hG)
      have hG0 : H G = none := B.same.free hG
      refine ⟨_, rfl, eA, rfl, ⟨_, SqL.of (Eq.trans (upd_ne nGe.symm) B.he)⟩, for_list (K := K) (a := eA) (xs := bs.map V.ref) (fun j σ H' => ∃ (vo v8 v9 v10 v11 : Option V), σ = [some (.ref p), some (.ref q), some (.ref eA), some (.ref dA), some (.ref lE), some (.int (0 + (i : Int))), vo, some (.ref G), v8, v9, v10, v11] ∧
        BSt H n (fun _ : Nat => V.bl true) S (i + 1) dA eA lE G es lbs bs edge (fun v => ∃ u ∈ edge.take j, Stp u v) H')
        ⟨_, _, _, _, _, rfl, F, kvs, ks, [], [], B.keep (same_new hG), upd_same, .nil, L.mid.weak fun v ⟨u, hu, _⟩ => by simp at hu⟩ (fun j σ H' _ ⟨_, _, _, _, _, _, _, _, _, _, _, q, _⟩ => SqL.of q.he) ?_ ?_⟩
      · rintro j y σ H2 hy ⟨vo, v8, v9, v10, v11, rfl, Q2⟩
        obtain ⟨b, hb, rfl⟩ := at_map hy
        obtain ⟨F2, kvs2, ks2, cs2, later2, B2, _, _, M2⟩ := id Q2
        obtain ⟨u, hu, hub⟩ := B2.re.at hb
        have hum := List.mem_of_getElem? hu
        have gu : Good n u := edgeGood u hum
        refine ⟨_, rfl, lE, rfl, ⟨_, SqL.of B2.hl⟩, for_list (K := K) (a := lE) (xs := lbs.map V.ref) (fun m σ H' => ∃ (v8 v9 v10 v11 : Option V), σ = [some (.ref p), some (.ref q), some (.ref eA), some (.ref dA), some (.ref lE), some (.int (0 + (i : Int))), some (.ref b), some (.ref G), v8, v9, v10, v11] ∧
          BSt H n (fun _ : Nat => V.bl true) S (i + 1) dA eA lE G es lbs bs edge (fun v => (∃ u ∈ edge.take j, Stp u v) ∨ ∃ e ∈ es.take m, v = ex u e.1 e.2.1 e.2.2) H' ∧ RowAt H' b u)
          ⟨_, _, _, _, rfl, Q2.weak fun v hv => hv.elim id (fun ⟨e, he, _⟩ => by simp at he), hub⟩ (fun m σ H' _ ⟨_, _, _, _, _, ⟨_, _, _, _, _, q, _⟩, _⟩ => SqL.of q.hl) ?_ ?_⟩
        · rintro m z σ H3 hz ⟨v8, v9, v10, v11, rfl, Q3, hub3⟩
          obtain ⟨eb, heb, rfl⟩ := at_map hz
          obtain ⟨F3, kvs3, ks3, cs3, later3, B3, hG3, hR3, M3⟩ := id Q3
          obtain ⟨e, he, hee⟩ := B3.xl.at heb
          obtain ⟨a, b', c⟩ := e
          have hem := List.mem_of_getElem? he
          obtain ⟨x1, x2, x3⟩ := (hes a b' c).mp hem
          refine ⟨eb, _, rfl, SqT.of hee, rfl, _, _, rfl, _, _, rfl, _, _, rfl, rfl, ?_⟩
          refine ⟨_, rfl, _, rfl, _, rfl, _, rfl, b, u, a, b', c, rfl, hub3, by rw [gu.1]; omega, x1, x2, by rw [gu.1]; exact x3, fun q' H4 s4 hq => ?_⟩
          have B4 := B3.keep s4
          have hst : Stp u (ex u a b' c) := stp_ex x1 x2 (by rw [gu.1]; exact x3)
          refine ⟨_, rfl, _, rfl, dA, _, rfl, DGet.t B4.hd hq.key, _, rfl, ?_⟩
          have wk : ∀ v, ((∃ u ∈ edge.take j, Stp u v) ∨ ∃ e ∈ es.take (m + 1), v = ex u e.1 e.2.1 e.2.2) → (((∃ u ∈ edge.take j, Stp u v) ∨ ∃ e ∈ es.take m, v = ex u e.1 e.2.1 e.2.2) ∨ v = ex u a b' c) := by
            rintro v (h | ⟨e, h, hv⟩)
            · exact .inl (.inl h)
            · rcases (take_mem_succ he).mp h with h | h
              · exact .inl (.inr ⟨e, h, hv⟩)
              · rw [h] at hv; exact .inr hv
          cases hv : valV kvs3 (keyR (ex u a b' c)) with
          | some v =>
            refine iteF ?_
            exact ⟨_, _, _, _, rfl, (B4.old (s4 _ _ hG3) (hR3.ts (Same.ts s4)) M3 (by rw [hv]; exact fun z => nomatch z)).weak wk, hub3.same s4⟩
          | none =>
            refine iteT ?_
            have nGd : G ≠ dA := ne_of hG3 B3.hd (fun z => nomatch z)
            have new := B4.new (s4 _ _ hG3) (hR3.ts (Same.ts s4)) M3 hd0 hG0 nGe nGl hq hum hst (hst.good gu) hv
            have sz3 : cs3.length < sizeLine := by
              rw [hR3.length]
              refine Nat.lt_of_le_of_lt (nodup_le M3.nd fun x hx => B3.mem ((M3.ltr x).mp hx)) ?_
              rw [← B3.di.len]; exact B3.size hn9
            refine ⟨_, rfl, _, rfl, dA, _, rfl, DPut.t (v := .bl true) B4.hd hq.key (B4.size hn9), ?_⟩
            refine ⟨_, rfl, .inl ⟨rfl, _, SqL.of (Eq.trans (upd_ne nGd) (s4 _ _ hG3))⟩, _, rfl, G, _, _, rfl, rfl, Eq.trans (upd_ne nGd) (s4 _ _ hG3), by rw [List.length_map]; exact sz3, ?_⟩
            refine ⟨_, _, _, _, rfl, BSt.weak new wk, ?_⟩
            have hb4 := hub3.same s4
            have t1 : TS H4 (upd H4 dA (.dT (putK kvs3 (keyR (ex u a b' c)) (.bl true)))) := ts_dT B4.hd
            exact (hb4.ts t1).ts (ts_lst (Eq.trans (upd_ne nGd) (s4 _ _ hG3)))
        · rintro σ H3 ⟨v8, v9, v10, v11, rfl, Q3, hub3⟩
          refine ⟨_, _, _, _, _, rfl, Q3.weak ?_⟩
          rintro v ⟨u', hu', hv⟩
          rcases (take_mem_succ hu).mp hu' with h | h
          · exact .inl ⟨u', h, hv⟩
          · rw [h] at hv
            obtain ⟨e, h1, h2⟩ := ex_of_all hes gu.1 hv
            refine .inr ⟨e, ?_, h2⟩
            rw [List.length_map, B2.xl.length, List.take_length]
            exact h1
      · rintro σ H2 ⟨vo, v8, v9, v10, v11, rfl, F2, kvs2, ks2, cs2, later2, B2, hG2, hR2, M2⟩
        have L2' : Lvl S (i + 1) F2 later2 := M2.lvl fun u v hu hs => by
          rw [List.length_map, B2.re.length, List.take_length]
          exact ⟨u, hu, hs⟩

        exact ⟨_, rfl, _, _, _, _, _, _, _, G, cs2, F2, later2, kvs2, ks2, rfl, { B2 with he := hG2, re := hR2 }, L2', hno'⟩
    · rintro σ H1' ⟨v5, v6, v7, v8, v9, v10, v11, eA, bs, F, edge, kvs, ks, rfl, B, L, hno⟩
      refine ⟨_, rfl, q, _, rfl, .inr (hq.same B.same).sq, ?_⟩
      rw [List.length_map]
      exact k o.length H1' B.same (number_end hor fun j hj => hno j (by rw [Int.toNat_natCast, List.length_map]; exact hj))
end
end K17
namespace K17
open PySem L2
theorem iteNN {c A B : Prop} [Decidable c] (hc : ¬ c) (h : A) : if (!decide c) = true then A else B := by
  rw [decide_eq_false hc]
  exact iteT h
/-- the program's search, on the heap: found at dA, waiting at wA, every at lE -/
structure RB (H0 : Hp) (n : Nat) (o : List Int) (dA wA lE : Addr) (es : List (Nat × Nat × Nat)) (lbs ws : List Addr) (wr : List (List Int)) (lab : List Int → Nat) (kvs : List (List Key × V)) (H : Hp) : Prop where
  same : Same H0 H
  hd : H dA = some (.dT kvs)
  di : DictIs kvs wr
  good : ∀ u ∈ wr, Good n u
  hw : H wA = some (.lst (ws.map V.ref))
  rw : Rows H ws wr
  hl : H lE = some (.lst (lbs.map V.ref))
  xl : Exs H lbs es
  par : ∀ u ∈ wr, (u = o ∧ valV kvs (keyR u) = some .non) ∨ (u ≠ o ∧ ∃ (t b x : Addr) (pr : List Int), valV kvs (keyR u) = some (.ref t) ∧ H t = some (.tup [.ref b, .ref x]) ∧ RowAt H b pr ∧ pr ∈ wr ∧ lab u = lab pr + 1)
theorem RB.ts {H0 : Hp} {n : Nat} {o : List Int} {dA wA lE : Addr} {es : List (Nat × Nat × Nat)} {lbs ws : List Addr} {wr : List (List Int)} {lab : List Int → Nat} {kvs : List (List Key × V)} {H H' : Hp} (B : RB H0 n o dA wA lE es lbs ws wr lab kvs H)
    (s : TS H H') (h0 : Same H0 H') (h1 : H' dA = H dA) (h2 : H' wA = H wA) (h3 : H' lE = H lE) : RB H0 n o dA wA lE es lbs ws wr lab kvs H' :=
  ⟨h0, h1.trans B.hd, B.di, B.good, h2.trans B.hw, B.rw.ts s, h3.trans B.hl, B.xl.ts s, fun u hu => (B.par u hu).elim .inl fun ⟨h, t, b, x, pr, e1, e2, e3, e4, e5⟩ => .inr ⟨h, t, b, x, pr, e1, s _ _ e2, e3.ts s, e4, e5⟩⟩
theorem RB.keep {H0 : Hp} {n : Nat} {o : List Int} {dA wA lE : Addr} {es : List (Nat × Nat × Nat)} {lbs ws : List Addr} {wr : List (List Int)} {lab : List Int → Nat} {kvs : List (List Key × V)} {H H' : Hp} (B : RB H0 n o dA wA lE es lbs ws wr lab kvs H) (s : Same H H') :
    RB H0 n o dA wA lE es lbs ws wr lab kvs H' := B.ts (Same.ts s) (B.same.trans s) ((s _ _ B.hd).trans B.hd.symm) ((s _ _ B.hw).trans B.hw.symm) ((s _ _ B.hl).trans B.hl.symm)
theorem RB.size {H0 : Hp} {n : Nat} {o : List Int} {dA wA lE : Addr} {es : List (Nat × Nat × Nat)} {lbs ws : List Addr} {wr : List (List Int)} {lab : List Int → Nat} {kvs : List (List Key × V)} {H : Hp} (B : RB H0 n o dA wA lE es lbs ws wr lab kvs H) (h9 : n ≤ 9) : wr.length ≤ 262144 := by
  have h1 := rows_le B.di.nd B.good
  have h2 : (4 : Nat) ^ n ≤ 4 ^ 9 := Nat.pow_le_pow_right (by decide) h9
  have h3 : (4 : Nat) ^ 9 = 262144 := by decide
  omega
theorem RB.new {H0 : Hp} {n : Nat} {o : List Int} {dA wA lE : Addr} {es : List (Nat × Nat × Nat)} {lbs ws : List Addr} {wr : List (List Int)} {lab : List Int → Nat} {kvs : List (List Key × V)} {H : Hp} (B : RB H0 n o dA wA lE es lbs ws wr lab kvs H)
    (d0 : H0 dA = none) (w0 : H0 wA = none) (nwl : wA ≠ lE) (ho : o ∈ wr) {u v : List Int} {q t b x : Addr} (hq : RowAt H q v) (gv : Good n v) (hv : v ∉ wr) (ht : H t = some (.tup [.ref b, .ref x])) (hb : RowAt H b u) (hu : u ∈ wr) :
    RB H0 n o dA wA lE es lbs (ws ++ [q]) (wr ++ [v]) (fun w => if w = v then lab u + 1 else lab w) (putK kvs (keyR v) (.ref t)) (upd (upd H dA (.dT (putK kvs (keyR v) (.ref t)))) wA (.lst (ws.map V.ref ++ [V.ref q]))) := by
  have nwd : wA ≠ dA := ne_of B.hw B.hd (fun z => nomatch z)
  have nld : lE ≠ dA := ne_of B.hl B.hd (fun z => nomatch z)
  have ts1 : TS H (upd H dA (.dT (putK kvs (keyR v) (.ref t)))) := ts_dT B.hd
  have hW1 : (upd H dA (.dT (putK kvs (keyR v) (.ref t)))) wA = some (.lst (ws.map V.ref)) := by rw [upd_ne nwd]; exact B.hw
  have ts2 := ts1.trans (ts_lst (o := .lst (ws.map V.ref ++ [V.ref q])) hW1)
  have ne : ∀ {w : List Int}, w ∈ wr → w ≠ v := fun h e => hv (e ▸ h)
  refine ⟨same_upd (same_upd B.same d0) w0, by rw [upd_ne nwd.symm, upd_same], B.di.put _ (B.di.none.mpr hv), fun w hw => ?_, by rw [upd_same, List.map_append]; rfl, (B.rw.ts ts2).snoc (hq.ts ts2), by rw [upd_ne nwl.symm, upd_ne nld]; exact B.hl, B.xl.ts ts2, fun w hw => ?_⟩
  · rcases List.mem_append.mp hw with hw | hw
    · exact B.good w hw
    · rw [List.mem_singleton] at hw; rw [hw]; exact gv
  · rcases List.mem_append.mp hw with hw | hw
    · have e := ne hw
      rcases B.par w hw with ⟨h1, h2⟩ | ⟨h1, t', b', x', pr, e1, e2, e3, e4, e5⟩
      · exact .inl ⟨h1, by rw [val_put, if_neg e]; exact h2⟩
      · refine .inr ⟨h1, t', b', x', pr, by rw [val_put, if_neg e]; exact e1, ts2 _ _ e2, e3.ts ts2, List.mem_append_left _ e4, ?_⟩
        simp only [if_neg e, if_neg (ne e4)]
        exact e5
    · rw [List.mem_singleton] at hw
      subst hw
      refine .inr ⟨fun e => hv (e ▸ ho), t, b, x, u, by rw [val_put, if_pos rfl], ts2 _ _ ht, hb.ts ts2, List.mem_append_left _ hu, ?_⟩
      simp only [if_true, if_neg (ne hu)]
section
variable {P : Program} {w : World} {K : PySem.W.Frag} {mg : Str → Option Value} {base : Heap}
def spRoadOf : Sp := fun vs H Q _ => ∃ (p q : Addr) (r o : List Int), vs = [.ref p, .ref q] ∧ RowAt H p r ∧ RowAt H q o ∧ r.length ≤ 1000 ∧ 1 ≤ o.length ∧ o.length ≤ 9 ∧ Lets o ∧
  ((∃ l ∈ o, l ∉ r) → ∀ H', Same H H' → Q .non H') ∧ ((∀ l ∈ o, l ∈ r) → ∀ (d : Nat) (t f x : Addr) H', IsD r o d → Same H H' → H' t = some (.tup [.int d, .ref f, .ref x]) → Q (.ref t) H')
abbrev nRoadOf : List Str := ["row", "out", "letter", "found", "waiting", "every", "at", "a", "b", "c", "there", "first", "exchanges", "here", "exchange"]
theorem scRoadOf : FnScope nRoadOf ["row", "out"] (defScope sRoadOf) := ⟨rfl, rfl, rfl, by decide +kernel, rfl, by decide +kernel, by decide +kernel⟩
theorem ok_RoadOf {f : Addr} {fd : FuncData} (T : Txt K mg) (F : Fun K "road_of" "road_of" sRoadOf f fd) : FnOk P w K mg base CX0 3 f fd ["row", "out"] spRoadOf := by
  obtain ⟨fAllExchanges, fdAllExchanges, FAllExchanges, mAllExchanges, bAllExchanges⟩ := T.allExchanges
  have GAllExchanges := ok_AllExchanges (P := P) (w := w) (base := base) T FAllExchanges
  obtain ⟨fWayOf, fdWayOf, FWayOf, mWayOf, bWayOf⟩ := T.wayOf
  have GWayOf := ok_WayOf (P := P) (w := w) (base := base) T FWayOf
  obtain ⟨fExchangedBy, fdExchangedBy, FExchangedBy, mExchangedBy, bExchangedBy⟩ := T.exchangedBy
  have GExchangedBy := ok_ExchangedBy (P := P) (w := w) (base := base) T FExchangedBy
  refine F.ok scRoadOf (fun vs H Q E h => ?_) (fun cdv A outer s H vs Q E hr h => ?_)
  · obtain ⟨p, q, r, o, rfl, _⟩ := h
    rfl
  · obtain ⟨p, q, r, o, rfl, hp, hq, hrl, ho1, ho9, hoL, k1, k2⟩ := h
    obtain ⟨n, hn⟩ : ∃ n, n = o.length := ⟨_, rfl⟩
    have hn9 : n ≤ 9 := by omega
    refine ⟨_, (pss_cons (ps_if (pt_val (pe_callB (cr_any rfl) (by rfl) T.b_any (by decide +kernel) (pa_cons (pe_lc (own := [("letter", 2)]) (g := gName 2) (tt := tYes) rfl scRoadOf.nd (pi_tup (pv 1)) (blkOk_by (N := nRoadOf) (sc := defScope sRoadOf) (by decide +kernel)) (fun _ _ _ _ _ => (pg_name (i := 2) scRoadOf.nd rfl (Or.inl rfl))) (fun _ _ _ _ _ => pts_nil) (fun _ _ _ _ _ => (pe_cmpR (r := rIn K true) op_notIn_seq (pv 2) (pv 0) (by with_unfolding_all rfl)))) pa_nil))) (pss_one (ps_ret pe_non)) pss_nil)
    (pss_cons (ps_set (i := 3) scRoadOf.nd rfl (Or.inl rfl) (pe_dispT (hu_of hr) (pv 1) pe_non))
    (pss_cons (ps_set (i := 4) scRoadOf.nd rfl (Or.inl rfl) (pe_lst (pa_cons (pv 1) pa_nil)))
    (pss_cons (ps_set (i := 5) scRoadOf.nd rfl (Or.inl rfl) (pe_call GAllExchanges (hr.mono (by decide)) (by rfl) mAllExchanges FAllExchanges.kp bAllExchanges .nil pass0 (pa_cons (pe_callB call_len_seq (by rfl) T.b_len (by decide +kernel) (pa_cons (pv 1) pa_nil)) pa_nil)))
    (pss_cons (ps_set (i := 6) scRoadOf.nd rfl (Or.inl rfl) pe_int)
    (pss_cons (ps_while PassesOwn.never (pt_cmpR op_isN (pe_call GWayOf (hr.mono (by decide)) (by rfl) mWayOf FWayOf.kp bWayOf .nil pass0 (pa_cons (pv 0) (pa_cons (pe_ix ix_list (pv 4) (pv 6) (fun _ _ => rfl)) pa_nil))) pe_non (nomark _))
      (pss_cons (ps_for PassesOwn.never rfl (pi_list (pv 5)) (pg_tup rfl (pgs_cons (pg_name (i := 7) scRoadOf.nd rfl (Or.inl rfl)) (pgs_cons (pg_name (i := 8) scRoadOf.nd rfl (Or.inl rfl)) (pgs_cons (pg_name (i := 9) scRoadOf.nd rfl (Or.inl rfl)) pgs_nil))))
      (pss_cons (ps_set (i := 10) scRoadOf.nd rfl (Or.inl rfl) (pe_call GExchangedBy (hr.mono (by decide)) (by rfl) mExchangedBy FExchangedBy.kp bExchangedBy .nil pass0 (pa_cons (pe_ix ix_list (pv 4) (pv 6) (fun _ _ => rfl)) (pa_cons (pv 7) (pa_cons (pv 8) (pa_cons (pv 9) pa_nil))))))
    (pss_one (ps_if (pt_cmp (pc_dnotin (hu_of hr) (pv 10) (pv 3)) (by with_unfolding_all rfl)) (pss_cons (ps_dput (hu_of hr) (pv 3) (pv 10) (pe_tup (pa_cons (pe_ix ix_list (pv 4) (pv 6) (fun _ _ => rfl)) (pa_cons (pe_tup (pa_cons (pv 7) (pa_cons (pe_op op_sub (pe_op op_add (pv 7) (pv 9)) (pv 8)) (pa_cons (pv 9) pa_nil)))) pa_nil))) rfl)
    (pss_one (ps_expr (pe_bm PySem.F.plainAttrs_list PySem.F.slot_list_append PySem.F.type_list_append mt_append (pv 4) (pa_cons (pv 10) pa_nil))))) pss_nil))))
    (pss_one (ps_aug (i := 6) scRoadOf.nd rfl (Or.inl rfl) pe_int ip_add))))
    (pss_cons (ps_set (i := 11) scRoadOf.nd rfl (Or.inl rfl) (pe_ix ix_list (pv 4) (pv 6) (fun _ _ => rfl)))
    (pss_cons (ps_set (i := 12) scRoadOf.nd rfl (Or.inl rfl) (pe_lst pa_nil))
    (pss_cons (ps_set (i := 13) scRoadOf.nd rfl (Or.inl rfl) (pv 11))
    (pss_cons (ps_while PassesOwn.never (pt_cmpR op_notN (pe_dget (hu_of hr) (pv 3) (pv 13) (fun _ _ => rfl)) pe_non (nomark _))
      (pss_cons (ps_asg (pe_dget (hu_of hr) (pv 3) (pv 13) (fun _ _ => rfl)) (pg_tup rfl (pgs_cons (pg_name (i := 13) scRoadOf.nd rfl (Or.inl rfl)) (pgs_cons (pg_name (i := 14) scRoadOf.nd rfl (Or.inl rfl)) pgs_nil))))
    (pss_one (ps_expr (pe_bm PySem.F.plainAttrs_list PySem.F.slot_list_append PySem.F.type_list_append mt_append (pv 12) (pa_cons (pv 14) pa_nil))))))
    (pss_one (ps_ret (pe_tup (pa_cons (pe_callB call_len_seq (by rfl) T.b_len (by decide +kernel) (pa_cons (pv 12) pa_nil)) (pa_cons (pv 11) (pa_cons (pv 12) pa_nil)))))))))))))))), ?_⟩
    -- a letter that the row has not
    refine ⟨_, rfl, q, rfl, ⟨_, hq.sq⟩, fun D hD => lc_tup (K := K) (a := q) (xs := o.map V.int) (fun i H' => Same H H' ∧ H' D = some (.lst (((o.take i).map fun l => !decide (l ∈ r)).map V.bl)))
      ⟨same_new hD, upd_same⟩ (fun i H' _ q => (hq.same q.1).sq) ?_ ?_⟩
    · rintro i y H' hy ⟨q1, q2⟩
      obtain ⟨l, hl, rfl⟩ := at_map hy
      have hi := (List.getElem?_eq_some_iff.mp hl).1
      refine ⟨rfl, ?_⟩
      refine ⟨_, rfl, _, rfl, p, _, rfl, .inr (hp.same q1).sq, rfl, flat_ints r, _, q2, ?_, same_upd q1 hD, ?_⟩
      · rw [List.length_map, List.length_map, List.length_take, sizeLine_eq]; omega
      · rw [upd_same, List.take_add_one, hl, Option.toList_some, List.map_append, List.map_append, inV_int]
        rfl
    rintro H1 ⟨s1, q2⟩
    rw [List.length_map, List.take_length] at q2
    refine ⟨D, _, rfl, SqL.of q2, _, rfl, ?_⟩
    refine ite2 (fun c1 => ?_) (fun c1 => ?_)
    · obtain ⟨x, hx, hx2⟩ := List.any_eq_true.mp c1
      obtain ⟨l, hl, rfl⟩ := List.mem_map.mp hx
      exact k1 ⟨l, hl, by simpa using hx2⟩ H1 s1
    have hor : ∀ l ∈ o, l ∈ r := fun l hl => by
      apply Classical.byContradiction
      intro hn
      exact c1 (List.any_eq_true.mpr ⟨true, List.mem_map.mpr ⟨l, hl, by simp [hn]⟩, rfl⟩)
    obtain ⟨dd, hdd, hD0⟩ := isD_some hor
    -- the table, the queue, all exchanges, the place
    refine fun dA hdA => ⟨_, rfl, upd_same, q, keyR o, rfl, ((hq.same s1).same (same_new hdA)).key, ?_⟩
    rw [upd_upd]
    have hd0 : H dA = none := s1.free hdA
    have s2 : Same H (upd H1 dA (.dT [(keyR o, .non)])) := s1.trans (same_new hdA)
    refine ⟨_, rfl, (by show 1 ≤ sizeLine; decide), fun wA hwA => ?_⟩
    have hw0 : H wA = none := s2.free hwA
    have nwd : dA ≠ wA := by
      intro e
      rw [e, upd_same] at hwA
      cases hwA
    have s3 : Same H (upd (upd H1 dA (.dT [(keyR o, .non)])) wA (.lst [.ref q])) := s2.trans (same_new hwA)
    refine ⟨_, rfl, q, _, rfl, .inr (hq.same s3).sq, n, ?_, by omega, hn9, fun lE lbs es H2 s4 hlE0 hlE hex _ hes => ?_⟩
    · rw [List.length_map, hn]; rfl
    have hW1 : (upd (upd H1 dA (.dT [(keyR o, .non)])) wA (.lst [.ref q])) wA = some (.lst [.ref q]) := upd_same
    have nwl : wA ≠ lE := ne_of_none hW1 hlE0
    have B0 : RB H n o dA wA lE es lbs [q] [o] (fun _ => 0) [(keyR o, .non)] H2 := by
      refine ⟨s3.trans s4, s4 _ _ (by rw [upd_ne nwd, upd_same]), ⟨rfl, by simp⟩, fun u hu => ?_, s4 _ _ upd_same, .cons (hq.same (s3.trans s4)) .nil, hlE, hex, fun u hu => ?_⟩
      · rw [List.mem_singleton] at hu; rw [hu]; exact ⟨hn.symm, hoL⟩
      · rw [List.mem_singleton] at hu; rw [hu]; exact .inl ⟨rfl, valV_pos rfl⟩
    -- the search
    refine ⟨fun m σ H' => ∃ (v7 v8 v9 v10 : Option V) (a : Nat) (ws : List Addr) (wr : List (List Int)) (lab : List Int → Nat) (kvs : List (List Key × V)),
      σ = [some (.ref p), some (.ref q), none, some (.ref dA), some (.ref wA), some (.ref lE), some (.int a), v7, v8, v9, v10, none, none, none, none] ∧ RB H n o dA wA lE es lbs ws wr lab kvs H' ∧ Que r o wr lab a (fun _ => False) ∧ m = 300000 - a,
      ⟨_, _, _, _, _, 0, [q], [o], fun _ => 0, _, rfl, B0, Que.start, rfl⟩, ?_⟩
    rintro m σ H3 ⟨v7, v8, v9, v10, a, ws, wr, lab, kvs, rfl, B, Qu, rfl⟩
    have hain := Qu.inside hD0
    have hsz := B.size hn9
    obtain ⟨u, hu⟩ : ∃ u, wr[a]? = some u := ⟨wr[a], List.getElem?_eq_getElem hain⟩
    obtain ⟨b, hb, hbu⟩ := B.rw.back hu
    have hum := List.mem_of_getElem? hu
    have gu := B.good u hum
    refine ⟨_, rfl, _, rfl, _, rfl, wA, _, _, _, rfl, rfl, SqL.of B.hw, at_of (j := a) rfl (map_at hb), ?_⟩
    refine ⟨p, b, r, u, rfl, hp.same B.same, hbu, hrl, by rw [gu.1]; omega, fun ht way H4 s5 => ⟨rfl, _, rfl, iteF ?_⟩, fun ht H4 s5 => ⟨rfl, _, rfl, iteT ?_⟩⟩
    · -- the end of the search
      have B4 := B.keep s5
      have hD := Qu.found hu ht
      have hde := hD.uniq hD0
      refine ⟨_, rfl, _, rfl, wA, _, _, _, rfl, rfl, SqL.of B4.hw, at_of (j := a) rfl (map_at hb), ?_⟩
      refine ⟨Nat.zero_le _, fun X hX => ?_⟩
      have hX0 : H X = none := B4.same.free hX
      have nwX : wA ≠ X := ne_of_none B4.hw hX
      have nlX : lE ≠ X := ne_of_none B4.hl hX
      have ndX : dA ≠ X := ne_of_none B4.hd hX
      refine ⟨_, rfl, ?_⟩
      refine ⟨fun m σ H' => ∃ (v14 : Option V) (b2 : Addr) (u2 : List Int) (xs : List V),
        σ = [some (.ref p), some (.ref q), none, some (.ref dA), some (.ref wA), some (.ref lE), some (.int a), v7, v8, v9, v10, some (.ref b), some (.ref X), some (.ref b2), v14] ∧ RB H n o dA wA lE es lbs ws wr lab kvs H' ∧ RowAt H' b2 u2 ∧ u2 ∈ wr ∧
        H' X = some (.lst xs) ∧ xs.length + lab u2 = lab u ∧ m = lab u2,
        ⟨_, _, b, u, [], rfl, B4.keep (same_new hX), (hbu.same s5).same (same_new hX), hum, upd_same, by simp, rfl⟩, ?_⟩
      rintro m σ H5 ⟨v14, b2, u2, xs, rfl, B5, hb2, hu2, hX5, hlen, rfl⟩
      rcases B5.par u2 hu2 with ⟨e1, e2⟩ | ⟨e1, t, b3, x3, pr, e2, e3, e4, e5, e6⟩
      · refine ⟨_, rfl, _, rfl, dA, _, rfl, by rw [← e2]; exact DGet.t B5.hd hb2.key, rfl, _, rfl, ?_⟩
        refine iteNS (c := V.non = V.non) rfl ?_
        have l0 : lab u2 = 0 := by rw [e1]; exact Qu.lab0
        refine ⟨_, rfl, X, _, rfl, .inl (SqL.of hX5), _, rfl, _, rfl, (by show 3 ≤ sizeLine; decide), fun t ht => ?_⟩
        have el : xs.length = lab u := by omega
        exact k2 hor (lab u) t b X _ hD (B5.same.trans (same_new ht)) (by rw [upd_same, el])
      · refine ⟨_, rfl, _, rfl, dA, _, rfl, by rw [← e2]; exact DGet.t B5.hd hb2.key, rfl, _, rfl, ?_⟩
        refine iteNN (c := V.ref t = V.non) (fun z => nomatch z) ?_
        refine ⟨fun σ' H' => ∃ (v14 : Option V) (b2 : Addr) (u3 : List Int) (xs : List V),
          σ' = [some (.ref p), some (.ref q), none, some (.ref dA), some (.ref wA), some (.ref lE), some (.int a), v7, v8, v9, v10, some (.ref b), some (.ref X), some (.ref b2), v14] ∧ RB H n o dA wA lE es lbs ws wr lab kvs H' ∧ RowAt H' b2 u3 ∧ u3 ∈ wr ∧
          H' X = some (.lst xs) ∧ xs.length + lab u3 = lab u ∧ lab u3 < lab u2, fun σ' H' ⟨v, b', u', xs', i1, i2, i3, i4, i5, i6, i7⟩ => ⟨lab u', i7, v, b', u', xs', i1, i2, i3, i4, i5, i6, rfl⟩, ?_⟩
        refine ⟨_, rfl, _, rfl, dA, _, rfl, by rw [← e2]; exact DGet.t B5.hd hb2.key, t, _, rfl, SqT.of e3, rfl, _, _, rfl, _, _, rfl, rfl, ?_⟩
        refine ⟨_, rfl, .inl ⟨rfl, _, SqL.of hX5⟩, _, rfl, X, _, _, rfl, rfl, hX5, ?_, ?_⟩
        · rw [sizeLine_eq]; omega
        · have tsX : TS H5 (upd H5 X (.lst (xs ++ [V.ref x3]))) := ts_lst hX5
          exact ⟨_, b3, pr, _, rfl, B5.ts tsX (same_upd B5.same hX0) (upd_ne ndX) (upd_ne nwX) (upd_ne nlX), e4.ts tsX, e5, upd_same, by rw [List.length_append, List.length_singleton]; omega, by omega⟩
    · -- a turn
      refine ⟨fun σ' H' => ∃ (v7 v8 v9 v10 : Option V) (ws : List Addr) (wr : List (List Int)) (lab : List Int → Nat) (kvs : List (List Key × V)),
        σ' = [some (.ref p), some (.ref q), none, some (.ref dA), some (.ref wA), some (.ref lE), some (.int ((a + 1 : Nat) : Int)), v7, v8, v9, v10, none, none, none, none] ∧ RB H n o dA wA lE es lbs ws wr lab kvs H' ∧ Que r o wr lab (a + 1) (fun _ => False),
        fun σ' H' ⟨v7, v8, v9, v10, ws, wr, lab, kvs, i1, i2, i3⟩ => ⟨300000 - (a + 1), by omega, v7, v8, v9, v10, a + 1, ws, wr, lab, kvs, i1, i2, i3, rfl⟩, ?_⟩
      have B4 := B.keep s5
      refine ⟨_, rfl, lE, rfl, ⟨_, SqL.of B4.hl⟩, for_list (K := K) (a := lE) (xs := lbs.map V.ref) (fun m σ H' => ∃ (v7 v8 v9 v10 : Option V) (ws : List Addr) (wr : List (List Int)) (lab : List Int → Nat) (kvs : List (List Key × V)),
        σ = [some (.ref p), some (.ref q), none, some (.ref dA), some (.ref wA), some (.ref lE), some (.int a), v7, v8, v9, v10, none, none, none, none] ∧ RB H n o dA wA lE es lbs ws wr lab kvs H' ∧
        Que r o wr lab a (fun v => ∃ e ∈ es.take m, v = ex u e.1 e.2.1 e.2.2) ∧ wr[a]? = some u ∧ ws[a]? = some b ∧ RowAt H' b u)
        ⟨_, _, _, _, ws, wr, lab, kvs, rfl, B4, { Qu with here := fun v ⟨e, he, _⟩ => by simp at he }, hu, hb, hbu.same s5⟩ (fun m σ H' _ ⟨_, _, _, _, _, _, _, _, _, q, _⟩ => SqL.of q.hl) ?_ ?_⟩
      · rintro m z σ H5 hz ⟨v7, v8, v9, v10, ws, wr, lab, kvs, rfl, B5, Q5, hu5, hb5, hbu5⟩
        obtain ⟨eb, heb, rfl⟩ := at_map hz
        obtain ⟨e, he, hee⟩ := B5.xl.at heb
        obtain ⟨xa, xb, xc⟩ := e
        have hem := List.mem_of_getElem? he
        obtain ⟨x1, x2, x3⟩ := (hes xa xb xc).mp hem
        have hum5 := List.mem_of_getElem? hu5
        refine ⟨eb, _, rfl, SqT.of hee, rfl, _, _, rfl, _, _, rfl, _, _, rfl, rfl, ?_⟩
        refine ⟨_, rfl, _, rfl, wA, _, _, _, rfl, rfl, SqL.of B5.hw, at_of (j := a) rfl (map_at hb5), ?_⟩
        refine ⟨_, rfl, _, rfl, _, rfl, b, u, xa, xb, xc, rfl, hbu5, by rw [gu.1]; omega, x1, x2, by rw [gu.1]; exact x3, fun q' H6 s6 hq' => ?_⟩
        have B6 := B5.keep s6
        have hst : Stp u (ex u xa xb xc) := stp_ex x1 x2 (by rw [gu.1]; exact x3)
        refine ⟨_, rfl, _, rfl, dA, _, rfl, DGet.t B6.hd hq'.key, _, rfl, ?_⟩
        have wk : ∀ v, (∃ e ∈ es.take (m + 1), v = ex u e.1 e.2.1 e.2.2) → ((∃ e ∈ es.take m, v = ex u e.1 e.2.1 e.2.2) ∨ v = ex u xa xb xc) := by
          rintro v ⟨e, h, hv⟩
          rcases (take_mem_succ he).mp h with h | h
          · exact .inl ⟨e, h, hv⟩
          · rw [h] at hv; exact .inr hv
        cases hv : valV kvs (keyR (ex u xa xb xc)) with
        | some v =>
          refine iteF ?_
          have hin : ex u xa xb xc ∈ wr := by
            apply Classical.byContradiction
            intro hne
            rw [B6.di.none.mpr hne] at hv
            cases hv
          exact ⟨_, _, _, _, ws, wr, lab, kvs, rfl, B6, { Q5.old hin with here := fun v h => (Q5.old hin).here v (wk v h) }, hu5, hb5, hbu5.same s6⟩
        | none =>
          refine iteT ?_
          have hnin : ex u xa xb xc ∉ wr := B6.di.none.mp hv
          refine ⟨_, rfl, _, rfl, wA, _, _, _, rfl, rfl, SqL.of B6.hw, at_of (j := a) rfl (map_at hb5), ?_⟩
          refine ⟨_, rfl, _, rfl, _, rfl, _, _, rfl, rfl, _, rfl, _, _, rfl, rfl, _, rfl, (by show 3 ≤ sizeLine; decide), fun x hx => ⟨(by show 2 ≤ sizeLine; decide), fun t ht => ?_⟩⟩
          have s7 := (same_new (o := .tup [.int xa, .int ((xa : Int) + (xc : Int) - (xb : Int)), .int xc]) hx).trans (same_new (o := .tup [.ref b, .ref x]) ht)
          have B7 := B6.keep s7
          have new := B7.new hd0 hw0 nwl (List.mem_of_getElem? Q5.zero) (hq'.same s7) (hst.good gu) hnin upd_same ((hbu5.same s6).same s7) hum5
          have hsz5 := B5.size hn9
          have hal : a < wr.length := (List.getElem?_eq_some_iff.mp hu5).1
          have hal2 : a < ws.length := (List.getElem?_eq_some_iff.mp hb5).1
          refine ⟨_, rfl, _, rfl, dA, _, rfl, DPut.t (v := .ref t) B7.hd (hq'.same s7).key (by rw [B7.di.len, sizeLine_eq]; omega), ?_⟩
          have nwd7 : wA ≠ dA := ne_of B7.hw B7.hd (fun z => nomatch z)
          refine ⟨_, rfl, .inl ⟨rfl, _, SqL.of (Eq.trans (upd_ne nwd7) B7.hw)⟩, _, rfl, wA, _, _, rfl, rfl, Eq.trans (upd_ne nwd7) B7.hw, by rw [List.length_map, B7.rw.length, sizeLine_eq]; omega, ?_⟩
          refine ⟨_, _, _, _, ws ++ [q'], wr ++ [ex u xa xb xc], _, _, rfl, new, { Q5.new hu5 hst hnin with here := fun v h => (Q5.new hu5 hst hnin).here v (wk v h) }, ?_, ?_, ?_⟩
          · rw [List.getElem?_append_left hal]; exact hu5
          · rw [List.getElem?_append_left hal2]; exact hb5
          · have t1 : TS _ (upd _ dA (.dT (putK kvs (keyR (ex u xa xb xc)) (.ref t)))) := ts_dT B7.hd
            exact (((hbu5.same s6).same s7).ts t1).ts (ts_lst (Eq.trans (upd_ne nwd7) B7.hw))
      · rintro σ H5 ⟨v7, v8, v9, v10, ws, wr, lab, kvs, rfl, B5, Q5, hu5, hb5, hbu5⟩
        refine ⟨_, rfl, _, _, rfl, rfl, ?_⟩
        refine ⟨_, _, _, _, ws, wr, lab, kvs, rfl, B5, Q5.next hu5 ht fun v hv => ?_⟩
        obtain ⟨e, h1, h2⟩ := ex_of_all hes gu.1 hv
        refine ⟨e, ?_, h2⟩
        rw [List.length_map, Paired.length B4.xl, List.take_length]
        exact h1
end
end K17
namespace K17
open PySem L2
section
variable {P : Program} {w : World} {K : PySem.W.Frag} {mg : Str → Option Value} {base : Heap}
def spCheckOut : Sp := fun vs H Q _ => ∃ (q : Addr) (o : List Int), vs = [.ref q] ∧ RowAt H q o ∧ o.length ≤ 9 ∧ Q .non H
abbrev nCheckOut : List Str := ["out"]
theorem scCheckOut : FnScope nCheckOut ["out"] (defScope sCheckOut) := ⟨rfl, rfl, rfl, by decide +kernel, rfl, by decide +kernel, by decide +kernel⟩
theorem ok_CheckOut {f : Addr} {fd : FuncData} (T : Txt K mg) (F : Fun K "check_out" "check_out" sCheckOut f fd) : FnOk P w K mg base CX0 1 f fd ["out"] spCheckOut := by
  obtain ⟨tRoa, mRoa⟩ := T.mRoa
  refine F.ok scCheckOut (fun vs H Q E h => ?_) (fun cdv A outer s H vs Q E hr h => ?_)
  · obtain ⟨q, o, rfl, _⟩ := h
    rfl
  · obtain ⟨q, o, rfl, hq, h9, k⟩ := h
    refine ⟨_, (pss_one (ps_if (pt_cmpR op_gt (pe_callB call_len_seq (by rfl) T.b_len (by decide +kernel) (pa_cons (pv 0) pa_nil)) (pe_glob (v := .int 9) (by rfl) mRoa ⟨_, rfl⟩) (nomark _)) (pss_one ps_never) pss_nil)), ?_⟩
    refine ⟨_, rfl, q, _, rfl, .inr hq.sq, _, _, rfl, rfl, _, rfl, ?_⟩
    rw [List.length_map]
    refine ite2 (fun c => ?_) (fun c => k)
    have : (9 : Int) < (o.length : Int) := by simpa using c
    omega
def spFewestOf : Sp := fun vs H Q _ => ∃ (p q : Addr) (r o : List Int), vs = [.ref p, .ref q] ∧ RowAt H p r ∧ RowAt H q o ∧ r.length ≤ 1000 ∧ 1 ≤ o.length ∧ o.length ≤ 9 ∧ Lets o ∧
  ((∃ l ∈ o, l ∉ r) → ∀ H', Same H H' → Q .non H') ∧ ((∀ l ∈ o, l ∈ r) → ∀ (d : Nat) H', IsD r o d → Same H H' → Q (.int d) H')
abbrev nFewestOf : List Str := ["row", "out", "found"]
theorem scFewestOf : FnScope nFewestOf ["row", "out"] (defScope sFewestOf) := ⟨rfl, rfl, rfl, by decide +kernel, rfl, by decide +kernel, by decide +kernel⟩
theorem ok_FewestOf {f : Addr} {fd : FuncData} (T : Txt K mg) (F : Fun K "fewest_of" "fewest_of" sFewestOf f fd) : FnOk P w K mg base CX0 4 f fd ["row", "out"] spFewestOf := by
  obtain ⟨fRoadOf, fdRoadOf, FRoadOf, mRoadOf, bRoadOf⟩ := T.roadOf
  have GRoadOf := ok_RoadOf (P := P) (w := w) (base := base) T FRoadOf
  refine F.ok scFewestOf (fun vs H Q E h => ?_) (fun cdv A outer s H vs Q E hr h => ?_)
  · obtain ⟨p, q, r, o, rfl, _⟩ := h
    rfl
  · obtain ⟨p, q, r, o, rfl, hp, hq, h1, h2, h3, h4, k1, k2⟩ := h
    refine ⟨_, (pss_cons (ps_set (i := 2) scFewestOf.nd rfl (Or.inl rfl) (pe_call GRoadOf (hr.mono (by decide)) (by rfl) mRoadOf FRoadOf.kp bRoadOf .nil pass0 (pa_cons (pv 0) (pa_cons (pv 1) pa_nil))))
    (pss_cons (ps_if (pt_cmpR op_isN (pv 2) pe_non (nomark _)) (pss_one (ps_ret pe_non)) pss_nil)
    (pss_one (ps_ret (pe_ix ix_tup (pv 2) pe_int (fun _ _ => rfl)))))), ?_⟩
    refine ⟨_, rfl, _, rfl, p, q, r, o, rfl, hp, hq, h1, h2, h3, h4, fun hn H' s1 => ?_, fun ha d t f x H' hd s1 ht => ?_⟩
    · exact ⟨_, rfl, rfl, _, rfl, iteT (k1 hn H' s1)⟩
    · refine ⟨_, rfl, rfl, _, rfl, iteF ?_⟩
      exact ⟨_, rfl, t, _, _, _, rfl, rfl, SqT.of ht, at_of (j := 0) rfl rfl, k2 ha d H' hd s1⟩
def spFewest : Sp := fun vs H Q _ => ∃ (p q : Addr) (r o : List Int), vs = [.ref p, .ref q] ∧ RowAt H p r ∧ RowAt H q o ∧ Valid r ∧ Valid o ∧ o.length ≤ 9 ∧
  ((∃ l ∈ o, l ∉ r) → ∀ H', Same H H' → Q .non H') ∧ ((∀ l ∈ o, l ∈ r) → ∀ (d : Nat) H', IsD r o d → Same H H' → Q (.int d) H')
abbrev nFewest : List Str := ["row", "out"]
theorem scFewest : FnScope nFewest ["row", "out"] (defScope sFewest) := ⟨rfl, rfl, rfl, by decide +kernel, rfl, by decide +kernel, by decide +kernel⟩
theorem ok_Fewest {f : Addr} {fd : FuncData} (T : Txt K mg) (F : Fun K "fewest" "fewest" sFewest f fd) : FnOk P w K mg base CX0 7 f fd ["row", "out"] spFewest := by
  obtain ⟨fCheckBoth, fdCheckBoth, FCheckBoth, mCheckBoth, bCheckBoth⟩ := T.checkBoth
  have GCheckBoth := ok_CheckBoth (P := P) (w := w) (base := base) T FCheckBoth
  obtain ⟨fCheckOut, fdCheckOut, FCheckOut, mCheckOut, bCheckOut⟩ := T.checkOut
  have GCheckOut := ok_CheckOut (P := P) (w := w) (base := base) T FCheckOut
  obtain ⟨fFewestOf, fdFewestOf, FFewestOf, mFewestOf, bFewestOf⟩ := T.fewestOf
  have GFewestOf := ok_FewestOf (P := P) (w := w) (base := base) T FFewestOf
  refine F.ok scFewest (fun vs H Q E h => ?_) (fun cdv A outer s H vs Q E hr h => ?_)
  · obtain ⟨p, q, r, o, rfl, _⟩ := h
    rfl
  · obtain ⟨p, q, r, o, rfl, hp, hq, hv, hu, h9, k1, k2⟩ := h
    refine ⟨_, (pss_cons (ps_expr (pe_call GCheckBoth (hr.mono (by decide)) (by rfl) mCheckBoth FCheckBoth.kp bCheckBoth .nil pass0 (pa_cons (pv 0) (pa_cons (pv 1) pa_nil))))
    (pss_cons (ps_expr (pe_call GCheckOut (hr.mono (by decide)) (by rfl) mCheckOut FCheckOut.kp bCheckOut .nil pass0 (pa_cons (pv 1) pa_nil)))
    (pss_one (ps_ret (pe_call GFewestOf (hr.mono (by decide)) (by rfl) mFewestOf FFewestOf.kp bFewestOf .nil pass0 (pa_cons (pv 0) (pa_cons (pv 1) pa_nil))))))), ?_⟩
    refine ⟨_, rfl, _, rfl, p, q, r, o, rfl, hp, hq, hv, hu, fun H1 s1 => ?_⟩
    refine ⟨_, rfl, q, o, rfl, hq.same s1, h9, ?_⟩
    exact ⟨_, rfl, _, rfl, p, q, r, o, rfl, hp.same s1, hq.same s1, hv.2.1, hu.1, h9, hu.2.2, fun hn H2 s2 => k1 hn H2 (s1.trans s2), fun ha d H2 hd s2 => k2 ha d H2 hd (s1.trans s2)⟩
theorem lets_of {r o : List Int} (h : Lets r) (h2 : ∀ l ∈ o, l ∈ r) : Lets o := fun l hl => h l (h2 l hl)
theorem exs_pos {H : Hp} {lbs : List Addr} {es : List (Nat × Nat × Nat)} {n : Nat} (h : Exs H lbs es) (ha : AllEx n es) (h2 : 2 ≤ n) : 0 < lbs.length := by
  have : (0, 1, 2) ∈ es := (ha 0 1 2).mpr ⟨by omega, by omega, by omega⟩
  rw [Paired.length h]
  exact List.length_pos_of_mem this
def spMade : Sp := fun vs H Q _ => ∃ (h c p : Addr) (r : List Int), vs = [.ref h, .ref p] ∧ Hand H h c ∧ RowAt H p r ∧ 1 ≤ r.length ∧ r.length ≤ 1000 ∧ Lets r ∧
  ∀ (t q : Addr) (o : List Int) (m : Nat) H', But h H H' → Hand H' h c → H' t = some (.tup [.ref q, .int m]) → RowAt H' q o → 1 ≤ o.length → o.length ≤ 5 → (∀ l ∈ o, l ∈ r) → (∀ d, IsD r o d → d ≤ m) → Q (.ref t) H'
abbrev nMade : List Str := ["_law_hand_here", "_law_row_here", "_law_out", "_law_many", "_law_turn", "_law_a", "_law_b", "_law_c"]
theorem scMade : FnScope nMade ["_law_hand_here", "_law_row_here"] (defScope sMade) := ⟨rfl, rfl, rfl, by decide +kernel, rfl, by decide +kernel, by decide +kernel⟩
theorem ok_Made {f : Addr} {fd : FuncData} (T : Txt K mg) (F : Fun K "_law_made" "_law_made" sMade f fd) : FnOk P w K mg base CX0 7 f fd ["_law_hand_here", "_law_row_here"] spMade := by
  obtain ⟨fThinned, fdThinned, FThinned, mThinned, bThinned⟩ := T.thinned
  have GThinned := ok_Thinned (P := P) (w := w) (base := base) T FThinned
  obtain ⟨fDraw, fdDraw, FDraw, mDraw, bDraw⟩ := T.draw
  have GDraw := ok_Draw (P := P) (w := w) (base := base) T FDraw
  obtain ⟨fSome, fdSome, FSome, mSome, bSome⟩ := T.someF
  have GSome := ok_Some (P := P) (w := w) (base := base) T FSome
  obtain ⟨fLExchanges, fdLExchanges, FLExchanges, mLExchanges, bLExchanges⟩ := T.lExchanges
  have GLExchanges := ok_LExchanges (P := P) (w := w) (base := base) T FLExchanges
  obtain ⟨fExchanged, fdExchanged, FExchanged, mExchanged, bExchanged⟩ := T.exchanged
  have GExchanged := ok_Exchanged (P := P) (w := w) (base := base) T FExchanged
  refine F.ok scMade (fun vs H Q E h => ?_) (fun cdv A outer s H vs Q E hr h => ?_)
  · obtain ⟨h, c, p, r, rfl, _⟩ := h
    rfl
  · obtain ⟨h, c, p, r, rfl, hh, hp, hr1, hr2, hrL, k⟩ := h
    refine ⟨_, (pss_cons (ps_set (i := 2) scMade.nd rfl (Or.inl rfl) (pe_call GThinned (hr.mono (by decide)) (by rfl) mThinned FThinned.kp bThinned .nil pass0 (pa_cons (pv 0) (pa_cons (pv 1) (pa_cons pe_int pa_nil)))))
    (pss_cons (ps_set (i := 3) scMade.nd rfl (Or.inl rfl) (pe_call GDraw (hr.mono (by decide)) (by rfl) mDraw FDraw.kp bDraw .nil pass0 (pa_cons (pv 0) (pa_cons pe_int pa_nil))))
    (pss_cons (ps_if (pt_cmpR op_eq (pe_callB call_len_seq (by rfl) T.b_len (by decide +kernel) (pa_cons (pv 2) pa_nil)) pe_int (nomark _)) (pss_one (ps_ret (pe_tup (pa_cons (pv 2) (pa_cons pe_int pa_nil))))) pss_nil)
    (pss_cons (ps_for PassesOwn.never rfl (pi_range1 (by rfl) T.b_range (pa_cons (pv 3) pa_nil)) (pg_name (i := 4) scMade.nd rfl (Or.inl rfl))
      (pss_cons (ps_asg (pe_call GSome (hr.mono (by decide)) (by rfl) mSome FSome.kp bSome .nil pass0 (pa_cons (pv 0) (pa_cons (pe_call GLExchanges (hr.mono (by decide)) (by rfl) mLExchanges FLExchanges.kp bLExchanges .nil pass0 (pa_cons (pe_callB call_len_seq (by rfl) T.b_len (by decide +kernel) (pa_cons (pv 2) pa_nil)) pa_nil)) pa_nil))) (pg_tup rfl (pgs_cons (pg_name (i := 5) scMade.nd rfl (Or.inl rfl)) (pgs_cons (pg_name (i := 6) scMade.nd rfl (Or.inl rfl)) (pgs_cons (pg_name (i := 7) scMade.nd rfl (Or.inl rfl)) pgs_nil)))))
    (pss_one (ps_set (i := 2) scMade.nd rfl (Or.inl rfl) (pe_call GExchanged (hr.mono (by decide)) (by rfl) mExchanged FExchanged.kp bExchanged .nil pass0 (pa_cons (pv 2) (pa_cons (pv 5) (pa_cons (pv 6) (pa_cons (pv 7) pa_nil)))))))))
    (pss_one (ps_ret (pe_tup (pa_cons (pv 2) (pa_cons (pv 3) pa_nil))))))))), ?_⟩
    refine ⟨_, rfl, _, rfl, h, c, p, r, 5, rfl, hh, hp, hr1, hr2, by decide, by decide, fun q o H1 b1 hh1 hq1 ho1 ho5 hth => ?_⟩
    have hor : ∀ l ∈ o, l ∈ r := (thin_iff.mp hth).mem
    refine ⟨_, rfl, h, c, 4, rfl, hh1, by decide, by decide, fun d H2 b2 hh2 d0 d1 => ?_⟩
    obtain ⟨m, rfl⟩ : ∃ m : Nat, d = m := ⟨d.toNat, by omega⟩
    have hq2 := hq1.hand b2 hh1
    refine ⟨_, rfl, q, _, rfl, .inr hq2.sq, rfl, _, rfl, ?_⟩
    rw [List.length_map]
    refine ite2 (fun c1 => ?_) (fun c1 => ?_)
    · refine ⟨_, rfl, (by show 2 ≤ sizeLine; decide), fun t ht => ?_⟩
      exact k t q o 0 _ ((b1.trans b2).same (same_new ht)) (hh2.same (same_new ht)) upd_same (hq2.same (same_new ht)) ho1 (by omega) hor fun d hd => by
        have := (isD_zero hd).mpr hth
        omega
    have hne : o.length ≠ 1 := fun e => c1 (by rw [e]; rfl)
    refine ⟨_, rfl, _, rfl, by omega, by omega, for_range (fun i σ H' => ∃ (v4 v5 v6 v7 : Option V) (qa : Addr) (oi : List Int), σ = [some (.ref h), some (.ref p), some (.ref qa), some (.int m), v4, v5, v6, v7] ∧ But h H H' ∧ Hand H' h c ∧ RowAt H' qa oi ∧ Rch i o oi)
      ⟨_, _, _, _, q, o, rfl, b1.trans b2, hh2, hq2, rfl⟩ ?_ ?_⟩
    · rintro i σ H3 hi ⟨v4, v5, v6, v7, qa, oi, rfl, b3, hh3, hq3, hrc⟩
      have hol : oi.length = o.length := hrc.perm.length_eq
      refine ⟨_, rfl, _, rfl, qa, _, rfl, .inr hq3.sq, o.length, ?_, by omega, by omega, fun lE lbs es H4 s4 hlE0 hlE hex hl4 hes => ?_⟩
      · rw [List.length_map, hol]; rfl
      have hh4 := hh3.same s4
      refine ⟨h, c, lE, _, rfl, hh4, (hh3.new hlE0).1, .inl (SqL.of hlE), ?_, ?_, fun j x H5 hx b5 hh5 => ?_⟩
      · rw [List.length_map]; exact exs_pos hex hes (by omega)
      · rw [List.length_map]; exact hl4
      obtain ⟨eb, heb, rfl⟩ := at_map hx
      obtain ⟨e, he, hee⟩ := hex.at heb
      obtain ⟨xa, xb, xc⟩ := e
      obtain ⟨x1, x2, x3⟩ := (hes xa xb xc).mp (List.mem_of_getElem? he)
      refine ⟨eb, _, rfl, SqT.of (b5.tsH hh4 _ _ hee), rfl, _, _, rfl, _, _, rfl, _, _, rfl, rfl, ?_⟩
      have hq5 := (hq3.same s4).hand b5 hh4
      have hvo : Valid oi := ⟨by omega, by omega, fun l hl => lets_of hrL hor l (hrc.perm.mem_iff.mp hl)⟩
      refine ⟨_, rfl, _, rfl, _, rfl, _, rfl, qa, oi, xa, xb, xc, rfl, hq5, hvo, x1, x2, by omega, fun q' H6 s6 hq' => ?_⟩
      exact ⟨_, _, _, _, q', _, rfl, ((b3.same s4).trans b5).same s6, hh5.same s6, hq', oi, hrc, stp_ex x1 x2 (by omega)⟩
    · rintro σ H3 ⟨v4, v5, v6, v7, qa, oi, rfl, b3, hh3, hq3, hrc⟩
      rw [Int.toNat_natCast] at hrc
      have hol : oi.length = o.length := hrc.perm.length_eq
      refine ⟨_, rfl, _, rfl, (by show 2 ≤ sizeLine; decide), fun t ht => ?_⟩
      exact k t qa oi m _ (b3.same (same_new ht)) (hh3.same (same_new ht)) upd_same (hq3.same (same_new ht)) (by omega) (by omega) (fun l hl => hor l (hrc.perm.mem_iff.mp hl)) fun d hd => hd.le hrc.symm hth
end
end K17
namespace K17
open PySem L2
section
variable {P : Program} {w : World} {K : PySem.W.Frag} {mg : Str → Option Value} {base : Heap}
def spWide : Sp := fun vs H Q _ => ∃ (h c : Addr), vs = [.ref h] ∧ Hand H h c ∧ ∀ H', But h H H' → Hand H' h c → Q (.bl true) H'
abbrev nWide : List Str := ["_law_hand_here", "_law_letters", "_law_row_here", "_law_lane", "_law_out", "_law_places", "_law_place", "_law_every", "_law_turn", "_law_a", "_law_b", "_law_c", "_law_due"]
theorem scWide : FnScope nWide ["_law_hand_here"] (defScope sWide) := ⟨rfl, rfl, rfl, by decide +kernel, rfl, by decide +kernel, by decide +kernel⟩
theorem ok_Wide {f : Addr} {fd : FuncData} (T : Txt K mg) (F : Fun K "_law_wide_right" "_law_wide_right" sWide f fd) : FnOk P w K mg base CX0 8 f fd ["_law_hand_here"] spWide := by
  obtain ⟨fDraw, fdDraw, FDraw, mDraw, bDraw⟩ := T.draw
  have GDraw := ok_Draw (P := P) (w := w) (base := base) T FDraw
  obtain ⟨fRow, fdRow, FRow, mRow, bRow⟩ := T.row
  have GRow := ok_Row (P := P) (w := w) (base := base) T FRow
  obtain ⟨fSome, fdSome, FSome, mSome, bSome⟩ := T.someF
  have GSome := ok_Some (P := P) (w := w) (base := base) T FSome
  obtain ⟨fIs, fdIs, FIs, mIs, bIs⟩ := T.isF
  have GIs := ok_Is (P := P) (w := w) (base := base) T FIs
  obtain ⟨fFewest, fdFewest, FFewest, mFewest, bFewest⟩ := T.fewest
  have GFewest := ok_Fewest (P := P) (w := w) (base := base) T FFewest
  obtain ⟨fNumber, fdNumber, FNumber, mNumber, bNumber⟩ := T.number
  have GNumber := ok_Number (P := P) (w := w) (base := base) T FNumber
  obtain ⟨fLExchanges, fdLExchanges, FLExchanges, mLExchanges, bLExchanges⟩ := T.lExchanges
  have GLExchanges := ok_LExchanges (P := P) (w := w) (base := base) T FLExchanges
  obtain ⟨fLExchanged, fdLExchanged, FLExchanged, mLExchanged, bLExchanged⟩ := T.lExchanged
  have GLExchanged := ok_LExchanged (P := P) (w := w) (base := base) T FLExchanged
  obtain ⟨fThins, fdThins, FThins, mThins, bThins⟩ := T.thins
  have GThins := ok_Thins (P := P) (w := w) (base := base) T FThins
  refine F.ok scWide (fun vs H Q E h => ?_) (fun cdv A outer s H vs Q E hr h => ?_)
  · obtain ⟨h, c, rfl, _⟩ := h
    rfl
  · obtain ⟨h, c, rfl, hh, k⟩ := h
    refine ⟨_, (pss_cons (ps_set (i := 1) scWide.nd rfl (Or.inl rfl) (pe_op op_add pe_int (pe_call GDraw (hr.mono (by decide)) (by rfl) mDraw FDraw.kp bDraw .nil pass0 (pa_cons (pv 0) (pa_cons pe_int pa_nil)))))
    (pss_cons (ps_set (i := 2) scWide.nd rfl (Or.inr rfl) (pe_op op_catA (pe_call GRow (hr.mono (by decide)) (by rfl) mRow FRow.kp bRow .nil pass0 (pa_cons (pv 0) (pa_cons (pv 1) (pa_cons pe_int pa_nil)))) (pe_tup (pa_cons pe_int (pa_cons pe_int (pa_cons pe_int pa_nil))))))
    (pss_cons (ps_set (i := 4) scWide.nd rfl (Or.inr rfl) (pe_callTy call_tuple_of (by rfl) T.b_tuple (by decide +kernel) (pa_cons (pe_lc (own := [("_law_lane", 3)]) (g := gName 3) (tt := tYes) rfl scWide.nd (pi_range1 (by rfl) T.b_range (pa_cons (pe_op op_add pe_int (pe_call GDraw (hr.mono (by decide)) (by rfl) mDraw FDraw.kp bDraw .nil pass0 (pa_cons (pv 0) (pa_cons pe_int pa_nil)))) pa_nil)) (blkOk_by (N := nWide) (sc := defScope sWide) (by decide +kernel)) (fun _ _ _ _ _ => (pg_name (i := 3) scWide.nd rfl (Or.inl rfl))) (fun _ _ _ _ _ => pts_nil) (fun _ _ _ _ _ => (pe_call GSome (hr.mono (by decide)) (by rfl) mSome FSome.kp bSome .nil pass0 (pa_cons (pv 0) (pa_cons (pv 2) pa_nil))))) pa_nil)))
    (pss_cons (ps_if (pt_not (pt_val (pe_call GIs (hr.mono (by decide)) (by rfl) mIs FIs.kp bIs .nil pass0 (pa_cons (pe_call GFewest (hr.mono (by decide)) (by rfl) mFewest FFewest.kp bFewest .nil pass0 (pa_cons (pv 2) (pa_cons (pv 4) pa_nil))) (pa_cons (pe_call GNumber (hr.mono (by decide)) (by rfl) mNumber FNumber.kp bNumber .nil pass0 (pa_cons (pv 2) (pa_cons (pv 4) pa_nil))) pa_nil))))) (pss_one (ps_ret pe_bl)) pss_nil)
    (pss_cons (ps_set (i := 5) scWide.nd rfl (Or.inl rfl) (pe_callB cr_sorted (by rfl) T.b_sorted (by decide +kernel) (pa_cons (pe_lc (own := [("_law_lane", 3)]) (g := gName 3) (tt := tYes) rfl scWide.nd (pi_range1 (by rfl) T.b_range (pa_cons (pe_op op_add pe_int (pe_call GDraw (hr.mono (by decide)) (by rfl) mDraw FDraw.kp bDraw .nil pass0 (pa_cons (pv 0) (pa_cons pe_int pa_nil)))) pa_nil)) (blkOk_by (N := nWide) (sc := defScope sWide) (by decide +kernel)) (fun _ _ _ _ _ => (pg_name (i := 3) scWide.nd rfl (Or.inl rfl))) (fun _ _ _ _ _ => pts_nil) (fun _ _ _ _ _ => (pe_call GDraw (hr.mono (by decide)) (by rfl) mDraw FDraw.kp bDraw .nil pass0 (pa_cons (pv 0) (pa_cons (pe_callB (r := rLenS K) call_lenS (by rfl) T.b_len (by decide +kernel) (pa_cons (pv 2) pa_nil)) pa_nil))))) pa_nil)))
    (pss_cons (ps_set (i := 4) scWide.nd rfl (Or.inr rfl) (pe_callTy call_tuple_of (by rfl) T.b_tuple (by decide +kernel) (pa_cons (pe_lc (own := [("_law_place", 6)]) (g := gName 6) (tt := tYes) rfl scWide.nd (pi_list (pv 5)) (blkOk_by (N := nWide) (sc := defScope sWide) (by decide +kernel)) (fun _ _ _ _ _ => (pg_name (i := 6) scWide.nd rfl (Or.inl rfl))) (fun _ _ _ _ _ => pts_nil) (fun _ _ _ _ _ => (pe_ix (r := rIxT K) ix_tup (pv 2) (pv 6) (fun _ _ => rfl)))) pa_nil)))
    (pss_cons (ps_set (i := 7) scWide.nd rfl (Or.inl rfl) (pe_call GLExchanges (hr.mono (by decide)) (by rfl) mLExchanges FLExchanges.kp bLExchanges .nil pass0 (pa_cons (pe_callB call_len_seq (by rfl) T.b_len (by decide +kernel) (pa_cons (pv 4) pa_nil)) pa_nil)))
    (pss_cons (ps_for PassesOwn.never rfl (pi_range1 (by rfl) T.b_range (pa_cons (pe_op op_add pe_int (pe_callTy call_int1 (by rfl) T.b_int (by decide +kernel) (pa_cons (pe_cmpR op_lt (pe_callB call_len_seq (by rfl) T.b_len (by decide +kernel) (pa_cons (pv 4) pa_nil)) pe_int (nomark _)) pa_nil))) pa_nil)) (pg_name (i := 8) scWide.nd rfl (Or.inl rfl))
      (pss_cons (ps_asg (pe_call GSome (hr.mono (by decide)) (by rfl) mSome FSome.kp bSome .nil pass0 (pa_cons (pv 0) (pa_cons (pv 7) pa_nil))) (pg_tup rfl (pgs_cons (pg_name (i := 9) scWide.nd rfl (Or.inl rfl)) (pgs_cons (pg_name (i := 10) scWide.nd rfl (Or.inl rfl)) (pgs_cons (pg_name (i := 11) scWide.nd rfl (Or.inl rfl)) pgs_nil)))))
    (pss_one (ps_set (i := 4) scWide.nd rfl (Or.inr rfl) (pe_call GLExchanged (hr.mono (by decide)) (by rfl) mLExchanged FLExchanged.kp bLExchanged .nil pass0 (pa_cons (pv 4) (pa_cons (pv 9) (pa_cons (pv 10) (pa_cons (pv 11) pa_nil)))))))))
    (pss_cons (ps_set (i := 12) scWide.nd rfl (Or.inl rfl) pe_int)
    (C8.pss_cut (ps_if (pt_val (pe_callB (cr_any rfl) (by rfl) T.b_any (by decide +kernel) (pa_cons (pe_lc (own := [("_law_a", 9), ("_law_b", 10), ("_law_c", 11)]) (g := gTup K 3 (gCons (gName 9) (gCons (gName 10) (gCons (gName 11) (gNil))))) (tt := tYes) rfl scWide.nd (pi_list (pv 7)) (blkOk_by (N := nWide) (sc := defScope sWide) (by decide +kernel)) (fun _ _ _ _ _ => (pg_tup rfl (pgs_cons (pg_name (i := 9) scWide.nd rfl (Or.inl rfl)) (pgs_cons (pg_name (i := 10) scWide.nd rfl (Or.inl rfl)) (pgs_cons (pg_name (i := 11) scWide.nd rfl (Or.inl rfl)) pgs_nil))))) (fun _ _ _ _ _ => pts_nil) (fun _ _ _ _ _ => (pe_call GThins (hr.mono (by decide)) (by rfl) mThins FThins.kp bThins .nil pass0 (pa_cons (pv 2) (pa_cons (pe_call GLExchanged (hr.mono (by decide)) (by rfl) mLExchanged FLExchanged.kp bLExchanged .nil pass0 (pa_cons (pv 4) (pa_cons (pv 9) (pa_cons (pv 10) (pa_cons (pv 11) pa_nil))))) pa_nil))))) pa_nil))) (pss_one (ps_set (i := 12) scWide.nd rfl (Or.inl rfl) pe_int)) pss_nil)
    (C8.pss_cut (ps_if (pt_val (pe_call GThins (hr.mono (by decide)) (by rfl) mThins FThins.kp bThins .nil pass0 (pa_cons (pv 2) (pa_cons (pv 4) pa_nil)))) (pss_one (ps_set (i := 12) scWide.nd rfl (Or.inl rfl) pe_int)) pss_nil)
    (pss_one (ps_ret (pe_call GIs (hr.mono (by decide)) (by rfl) mIs FIs.kp bIs .nil pass0 (pa_cons (pe_call GFewest (hr.mono (by decide)) (by rfl) mFewest FFewest.kp bFewest .nil pass0 (pa_cons (pv 2) (pa_cons (pv 4) pa_nil))) (pa_cons (pv 12) pa_nil)))))))))))))))), ?_⟩
    -- letters, row
    refine ⟨_, rfl, h, c, 2, rfl, hh, by decide, by decide, fun d0 H1 b1 hh1 d00 d01 => ?_⟩
    refine ⟨_, _, rfl, rfl, ?_⟩
    refine ⟨_, rfl, _, rfl, h, c, _, _, rfl, hh1, by omega, by omega, by decide, by decide, fun p0 r0 H2 b2 hh2 hp0 hr1 hr2 hrl => ?_⟩
    refine ⟨(by show 3 ≤ sizeLine; decide), fun t0 ht0 => ?_⟩
    refine catA (xs := r0.map V.int) (ys := [.int 0, .int 1, .int 2]) (Eq.trans (upd_ne (ne_of_none hp0 ht0)) hp0) upd_same ?_ fun p H3 s3 hp => ?_
    · rw [List.length_map, sizeLine_eq]
      show r0.length + 3 ≤ 16777216
      omega
    have er : r0.map V.int ++ [V.int 0, V.int 1, V.int 2] = (r0 ++ [0, 1, 2]).map V.int := by rw [List.map_append]; rfl
    rw [er] at hp
    have hp : RowAt H3 p (r0 ++ [0, 1, 2]) := hp
    have s23 := (same_new (o := .tup [.int 0, .int 1, .int 2]) ht0).trans s3
    have hh3 := hh2.same s23
    have b3 : But h H H3 := (b1.trans b2).same s23
    have hv : Valid (r0 ++ [0, 1, 2]) := by
      refine ⟨by simp, by rw [List.length_append, List.length_cons, List.length_cons, List.length_singleton]; omega, fun l hl => ?_⟩
      rcases List.mem_append.mp hl with hl | hl
      · have := hrl l hl
        omega
      · have : l = 0 ∨ l = 1 ∨ l = 2 := by simpa using hl
        omega
    generalize r0 ++ [0, 1, 2] = r at hp hv
    clear hp0 hrl hr1 hr2 er s3 s23 ht0
    obtain ⟨hv1, hv2, hvL⟩ := id hv
    -- out: drawn letters of the row
    refine ⟨_, rfl, h, c, 2, rfl, hh3, by decide, by decide, fun d1 H4 b4 hh4 d10 d11 => ?_⟩
    refine ⟨_, _, rfl, rfl, _, rfl, by omega, by omega, fun D hD => lc_range (fun i H' => ∃ cs : List Int, But h H4 H' ∧ Hand H' h c ∧ H' D = some (.lst (cs.map V.int)) ∧ cs.length = i ∧ ∀ l ∈ cs, l ∈ r)
      ⟨[], but_new (But.refl _ _) hD, hh4.upd (hh4.new hD).1 (hh4.new hD).2, upd_same, rfl, fun l hl => nomatch hl⟩ ?_ ?_⟩
    · rintro i H5 hi ⟨cs, q1, q2, q3, q4, q5⟩
      refine ⟨rfl, ?_⟩
      obtain ⟨nDh, nDc⟩ := hh4.new hD
      have hp5 := (hp.hand b4 hh3).hand q1 hh4
      obtain ⟨xsH, hxsH⟩ := q2.lst
      refine ⟨_, rfl, _, rfl, h, c, p, _, rfl, q2, ne_of hp5 hxsH (fun z => nomatch z), .inr hp5.sq, by rw [List.length_map]; omega, by rw [List.length_map]; omega, fun j x H6 hx b6 hh6 => ?_⟩
      obtain ⟨y, hy, rfl⟩ := at_map hx
      have hD6 := b6 _ _ nDh q3
      refine ⟨_, hD6, ?_, cs ++ [y], but_new (q1.trans b6) hD, hh6.upd nDh nDc, by rw [upd_same, List.map_append]; rfl, by rw [List.length_append, q4]; rfl, fun l hl => ?_⟩
      · rw [List.length_map, q4, sizeLine_eq]; omega
      · rcases List.mem_append.mp hl with hl | hl
        · exact q5 l hl
        · rw [List.mem_singleton] at hl; rw [hl]; exact List.mem_of_getElem? hy
    rintro H5 ⟨o, q1, q2, q3, q4, hor⟩
    have ho7 : 6 ≤ o.length ∧ o.length ≤ 7 := by rw [q4]; omega
    refine ⟨D, _, rfl, .inl ⟨SqL.of q3, fun q hq => ?_⟩⟩
    have s56 := same_new (o := .tup (o.map V.int)) hq
    have hq6 : RowAt (upd H5 q (.tup (o.map V.int))) q o := upd_same
    have b6 : But h H (upd H5 q (.tup (o.map V.int))) := ((b3.trans b4).trans q1).same s56
    have hh6 := q2.same s56
    have hp6 := ((hp.hand b4 hh3).hand q1 hh4).same s56
    generalize (upd H5 q (.tup (o.map V.int))) = H6 at hq6 b6 hh6 hp6
    clear hp hD s56 hq q1 q2 q3 b4 hh4 hh3 b3
    -- the program's number against the law's own search
    obtain ⟨d, hdn, hd⟩ := isD_some hor
    have hvo : Valid o := ⟨by omega, by omega, lets_of hvL hor⟩
    refine ⟨_, rfl, _, rfl, p, q, r, o, rfl, hp6, hq6, hv, hvo, by omega, fun ⟨l, h1, h2⟩ => (h2 (hor l h1)).elim, fun _ d' H7 hd' s7 => ?_⟩
    obtain rfl := hd'.uniq hd
    refine ⟨_, rfl, _, rfl, p, q, r, o, rfl, hp6.same s7, hq6.same s7, hv2, by omega, by omega, hvo.2.2, hor, fun d2 H8 s8 hd2 => ?_⟩
    obtain rfl := hd2.uniq hd
    refine ⟨_, rfl, .inr ⟨_, rfl⟩, fun H9 s9 => ⟨_, rfl, iteF ?_⟩⟩
    have s69 := (s7.trans s8).trans s9
    have hh9 := hh6.same s69
    have b9 : But h H H9 := b6.same s69
    have hp9 := hp6.same s69
    clear hh6 b6 hp6 s69 s7 s8 s9 hd hd' hd2 hq6 hvo hdn hor q4 ho7
    -- places
    refine ⟨_, rfl, h, c, 3, rfl, hh9, by decide, by decide, fun d3 H10 b10 hh10 d30 d31 => ?_⟩
    refine ⟨_, _, rfl, rfl, _, rfl, by omega, by omega, fun D hD => lc_range (fun i H' => ∃ cs : List Int, But h H10 H' ∧ Hand H' h c ∧ H' D = some (.lst (cs.map V.int)) ∧ cs.length = i ∧ ∀ l ∈ cs, 0 ≤ l ∧ l < r.length)
      ⟨[], but_new (But.refl _ _) hD, hh10.upd (hh10.new hD).1 (hh10.new hD).2, upd_same, rfl, fun l hl => nomatch hl⟩ ?_ ?_⟩
    · rintro i H3 hi ⟨cs, q1, q2, q3, q4, q5⟩
      refine ⟨rfl, ?_⟩
      obtain ⟨nDh, nDc⟩ := hh10.new hD
      have hp3 := (hp9.hand b10 hh9).hand q1 hh10
      refine ⟨_, rfl, _, rfl, p, _, rfl, .inr hp3.sq, h, c, _, rfl, q2, ?_, ?_, fun e H4 b4 hh4 e0 e1 => ?_⟩
      · rw [List.length_map]; omega
      · rw [List.length_map]; omega
      rw [List.length_map] at e1
      have hD4 := b4 _ _ nDh q3
      refine ⟨_, hD4, ?_, cs ++ [e], but_new (q1.trans b4) hD, hh4.upd nDh nDc, by rw [upd_same, List.map_append]; rfl, by rw [List.length_append, q4]; rfl, fun l hl => ?_⟩
      · rw [List.length_map, q4, sizeLine_eq]; omega
      · rcases List.mem_append.mp hl with hl | hl
        · exact q5 l hl
        · rw [List.mem_singleton] at hl; rw [hl]; exact ⟨e0, e1⟩
    rintro H11 ⟨cs, q1, q2, q3, q4, q5⟩
    have hcl : (cs.length : Int) = 7 + d3 := by rw [q4]; omega
    refine ⟨D, cs, rfl, SqL.of q3, by omega, fun ns B hpm hsr hB => ?_⟩
    have hnl : ns.length = cs.length := hpm.length_eq
    have hnm : ∀ z ∈ ns, 0 ≤ z ∧ z < r.length := fun z hz => q5 z (hpm.mem_iff.mp hz)
    have hB1 : upd H11 B (.lst (ns.map V.int)) B = some (.lst (ns.map V.int)) := upd_same
    have s3 : Same H11 (upd H11 B (.lst (ns.map V.int))) := same_new hB
    have hpB := (((hp9.hand b10 hh9).hand q1 hh10).same s3)
    refine ⟨_, rfl, B, rfl, ⟨_, SqL.of hB1⟩, fun G hG => lc_list (K := K) (a := B) (xs := ns.map V.int) (fun i H' => Same (upd H11 B (.lst (ns.map V.int))) H' ∧ H' G = some (.lst (((ns.take i).map fun z => r.getD z.toNat 0).map V.int)))
      ⟨same_new hG, upd_same⟩ (fun i H' _ q => SqL.of (q.1 _ _ hB1)) ?_ ?_⟩
    · rintro i y H4 hy ⟨g1, g2⟩
      obtain ⟨z, hz, rfl⟩ := at_map hy
      have hi := (List.getElem?_eq_some_iff.mp hz).1
      obtain ⟨z0, z1⟩ := hnm z (List.mem_of_getElem? hz)
      refine ⟨rfl, ?_⟩
      have hzr : z.toNat < r.length := by omega
      refine ⟨_, rfl, _, rfl, p, _, z, _, rfl, rfl, (hpB.same g1).sq, at_of (j := z.toNat) (by omega) (map_at (List.getElem?_eq_getElem hzr)), _, g2, ?_, same_upd g1 hG, ?_⟩
      · rw [List.length_map, List.length_map, List.length_take, sizeLine_eq]; omega
      · rw [upd_same, List.take_add_one, hz, Option.toList_some, List.map_append, List.map_append]
        have e : r.getD z.toNat 0 = r[z.toNat] := by simp [List.getD, hzr]
        have e2 : (List.map (fun z : Int => r.getD z.toNat 0) [z]).map V.int = [V.int r[z.toNat]] := by
          show [V.int (r.getD z.toNat 0)] = _
          rw [e]
        rw [e2]
    rintro H12 ⟨g1, g2⟩
    rw [List.length_map, List.take_length] at g2
    refine ⟨G, _, rfl, .inl ⟨SqL.of g2, fun qo hqo => ?_⟩⟩
    have hth : thinB r (ns.map fun (z : Int) => r.getD z.toNat 0) = true := thin_iff.mpr (toNat_way hnm hsr)
    have hol : (ns.map fun (z : Int) => r.getD z.toNat 0).length = cs.length := by rw [List.length_map, hnl]
    have s5 := (s3.trans g1).trans (same_new (o := .tup ((ns.map fun (z : Int) => r.getD z.toNat 0).map V.int)) hqo)
    have hq13 : RowAt (upd H12 qo (.tup ((ns.map fun (z : Int) => r.getD z.toNat 0).map V.int))) qo (ns.map fun (z : Int) => r.getD z.toNat 0) := upd_same
    have b13 := ((b9.trans b10).trans q1).same s5
    have hh13 := q2.same s5
    have hp13 := (((hp9.hand b10 hh9).hand q1 hh10).same s5)
    generalize (ns.map fun (z : Int) => r.getD z.toNat 0) = o at hth hol hq13 b13 hh13 hp13
    generalize (upd H12 qo (.tup (o.map V.int))) = H13 at hq13 b13 hh13 hp13
    clear s5 hqo g1 g2 hG hpB s3 hB1 hnm hnl hsr hpm hB q1 q2 q3 q5 hD hh10 b10 hh9 b9 hp9
    have ho1 : 7 ≤ o.length := by omega
    have ho9 : o.length ≤ 9 := by omega
    clear hol hcl q4
    have hor : ∀ l ∈ o, l ∈ r := (thin_iff.mp hth).mem
    -- every; one or two exchanges
    refine ⟨_, rfl, qo, _, rfl, .inr hq13.sq, o.length, ?_, by omega, ho9, fun lE lbs es H14 s14 hlE0 hlE hex hl4 hes => ?_⟩
    · rw [List.length_map]; rfl
    have nlh : lE ≠ h := (hh13.new hlE0).1
    have hq14 := hq13.same s14
    have hh14 := hh13.same s14
    refine ⟨_, rfl, qo, _, rfl, .inr hq14.sq, _, _, rfl, rfl, .inr ⟨_, rfl, _, _, rfl, rfl, _, rfl, ?_⟩⟩
    rw [List.length_map]
    have hct : ((1 : Int) + (if decide ((o.length : Int) < 8) = true then 1 else 0)).toNat ≤ 2 := by split <;> decide
    have hcb : -(2 ^ 62) ≤ (1 : Int) + (if decide ((o.length : Int) < 8) = true then 1 else 0) ∧ (1 : Int) + (if decide ((o.length : Int) < 8) = true then 1 else 0) < 2 ^ 62 := by split <;> decide
    refine ⟨hcb.1, hcb.2, for_range (fun i σ H' => ∃ (v8 v9 v10 v11 : Option V) (qa : Addr) (oi : List Int), σ = [some (.ref h), some (.int (3 + d0)), some (.ref p), none, some (.ref qa), some (.ref B), none, some (.ref lE), v8, v9, v10, v11, none] ∧ But h H14 H' ∧ Hand H' h c ∧ RowAt H' qa oi ∧ Rch i o oi)
      ⟨_, _, _, _, qo, o, rfl, But.refl _ _, hh14, hq14, rfl⟩ ?_ ?_⟩
    · rintro i σ H3 hi ⟨v8, v9, v10, v11, qa, oi, rfl, b3, hh3, hq3, hrc⟩
      have hol : oi.length = o.length := hrc.perm.length_eq
      refine ⟨_, rfl, _, rfl, h, c, lE, _, rfl, hh3, nlh, .inl (SqL.of (b3 _ _ nlh hlE)), ?_, ?_, fun j x H5 hx b5 hh5 => ?_⟩
      · rw [List.length_map]; exact exs_pos hex hes (by omega)
      · rw [List.length_map]; exact hl4
      obtain ⟨eb, heb, rfl⟩ := at_map hx
      obtain ⟨e, he, hee⟩ := hex.at heb
      obtain ⟨xa, xb, xc⟩ := e
      obtain ⟨x1, x2, x3⟩ := (hes xa xb xc).mp (List.mem_of_getElem? he)
      refine ⟨eb, _, rfl, SqT.of (b5.tsH hh3 _ _ (b3.tsH hh14 _ _ hee)), rfl, _, _, rfl, _, _, rfl, _, _, rfl, rfl, ?_⟩
      have hq5 := hq3.hand b5 hh3
      refine ⟨_, rfl, _, rfl, _, rfl, _, rfl, qa, oi, xa, xb, xc, rfl, hq5, by omega, x1, x2, by omega, fun q' H6 s6 hq' => ?_⟩
      exact ⟨_, _, _, _, q', _, rfl, (b3.trans b5).same s6, hh5.same s6, hq', oi, hrc, stp_ex x1 x2 (by omega)⟩
    rintro σ H15 ⟨v8, v9, v10, v11, qa, oi, rfl, b15, hh15, hqa, hrc⟩
    have hol : oi.length = o.length := hrc.perm.length_eq
    have hoi : ∀ l ∈ oi, l ∈ r := fun l hl => hor l (hrc.perm.mem_iff.mp hl)
    obtain ⟨d, hdn, hd⟩ := isD_some hoi
    have hd2 : d ≤ 2 := Nat.le_trans (hd.le hrc.symm hth) hct
    have hp15 := (hp13.same s14).hand b15 hh14
    have hex15 := hex.ts (b15.tsH hh14)
    have hlE15 := b15 _ _ nlh hlE
    have b0 : But h H H15 := (b13.same s14).trans b15
    have hvo : Valid oi := ⟨by omega, by omega, lets_of hvL hoi⟩
    -- the number that is due: two, or one
    refine ⟨fun σ H' => ∃ (v9 v10 v11 : Option V) (z : Int), σ = [some (.ref h), some (.int (3 + d0)), some (.ref p), none, some (.ref qa), some (.ref B), none, some (.ref lE), v8, v9, v10, v11, some (.int z)] ∧ Same H15 H' ∧
      ((z = 1 ∧ ∃ v, Stp oi v ∧ thinB r v = true) ∨ (z = 2 ∧ ¬ ∃ v, Stp oi v ∧ thinB r v = true)), ?_, ?_⟩
    · refine ⟨_, rfl, lE, rfl, ⟨_, SqL.of hlE15⟩, fun D hD => lc_list (K := K) (a := lE) (xs := lbs.map V.ref) (fun m H' => Same H15 H' ∧ H' D = some (.lst (((es.take m).map fun e => thinB r (ex oi e.1 e.2.1 e.2.2)).map V.bl)))
        ⟨same_new hD, upd_same⟩ (fun m H' _ q => SqL.of (q.1 _ _ hlE15)) ?_ ?_⟩
      · rintro m y H3 hy ⟨g1, g2⟩
        obtain ⟨eb, heb, rfl⟩ := at_map hy
        obtain ⟨e, he, hee⟩ := hex15.at heb
        have hm := (List.getElem?_eq_some_iff.mp heb).1
        obtain ⟨xa, xb, xc⟩ := e
        obtain ⟨x1, x2, x3⟩ := (hes xa xb xc).mp (List.mem_of_getElem? he)
        refine ⟨eb, _, rfl, SqT.of (g1 _ _ hee), rfl, _, _, rfl, _, _, rfl, _, _, rfl, rfl, rfl, ?_⟩
        refine ⟨_, rfl, _, rfl, _, rfl, _, rfl, _, rfl, qa, oi, xa, xb, xc, rfl, hqa.same g1, by omega, x1, x2, by omega, fun q' H4 s4 hq' => ?_⟩
        have hlen := ex_length x1 x2 (show xc ≤ oi.length by omega)
        refine ⟨p, q', r, _, rfl, (hp15.same g1).same s4, hq', by omega, by omega, fun H5 s5 => ⟨_, s5 _ _ (s4 _ _ g2), ?_, same_upd ((g1.trans s4).trans s5) hD, ?_⟩⟩
        · rw [List.length_map, List.length_map, List.length_take, sizeLine_eq]; omega
        · rw [upd_same, List.take_add_one, he, Option.toList_some, List.map_append, List.map_append]; rfl
      rintro H3 ⟨g1, g2⟩
      rw [List.length_map, Paired.length hex, List.take_length] at g2
      refine ⟨D, _, rfl, SqL.of g2, _, rfl, ?_⟩
      refine ite2 (fun c1 => ?_) (fun c1 => ?_)
      · obtain ⟨x, hx, hx2⟩ := List.any_eq_true.mp c1
        obtain ⟨e, he, rfl⟩ := List.mem_map.mp hx
        obtain ⟨xa, xb, xc⟩ := e
        obtain ⟨x1, x2, x3⟩ := (hes xa xb xc).mp he
        exact ⟨_, _, _, 1, rfl, g1, .inl ⟨rfl, _, stp_ex x1 x2 (by omega), hx2⟩⟩
      · refine ⟨_, _, _, 2, rfl, g1, .inr ⟨rfl, fun ⟨v, h1, h2⟩ => ?_⟩⟩
        obtain ⟨e, he, rfl⟩ := ex_of_all hes hol h1
        exact c1 (List.any_eq_true.mpr ⟨_, List.mem_map.mpr ⟨e, he, rfl⟩, h2⟩)
    rintro σ H16 ⟨v9, v10, v11, z, rfl, s16, hz⟩
    refine ⟨fun σ H' => ∃ (v9 v10 v11 : Option V), σ = [some (.ref h), some (.int (3 + d0)), some (.ref p), none, some (.ref qa), some (.ref B), none, some (.ref lE), v8, v9, v10, v11, some (.int (d : Int))] ∧ Same H15 H', ?_, ?_⟩
    · refine ⟨_, rfl, _, rfl, p, qa, r, oi, rfl, hp15.same s16, hqa.same s16, by omega, by omega, fun H17 s17 => ⟨_, rfl, ?_⟩⟩
      refine ite2 (fun c1 => ?_) (fun c1 => ?_)
      · have := (isD_zero hd).mpr c1
        subst this
        exact ⟨_, _, _, rfl, s16.trans s17⟩
      · have c2 : thinB r oi = false := by simpa using c1
        have e : z = (d : Int) := by
          rcases hz with ⟨h1, h2⟩ | ⟨h1, h2⟩
          · rw [due_one hd c2 h2, h1]; rfl
          · rw [due_two hd hd2 c2 h2, h1]; rfl
        subst e
        exact ⟨_, _, _, rfl, s16.trans s17⟩
    rintro σ H17 ⟨v9, v10, v11, rfl, s17⟩
    refine ⟨_, rfl, _, rfl, p, qa, r, oi, rfl, hp15.same s17, hqa.same s17, hv, hvo, by omega, fun ⟨l, h1, h2⟩ => (h2 (hoi l h1)).elim, fun _ d' H18 hd' s18 => ?_⟩
    obtain rfl := hd'.uniq hd
    refine ⟨_, rfl, _, rfl, .inr ⟨_, rfl⟩, fun H19 s19 => ?_⟩
    have sf := (s17.trans s18).trans s19
    exact k H19 (b0.same sf) (hh15.same sf)
end
end K17
namespace K17
open PySem L2
section
variable {P : Program} {w : World} {K : PySem.W.Frag} {mg : Str → Option Value} {base : Heap}
def spLaw (K : PySem.W.Frag) : Sp := fun vs H Q _ => ∃ (a : Addr) (ns : List Int), vs = [.ref a] ∧ SqL K H a (ns.map V.int) ∧ ns.length ≤ 63 ∧ ∀ H', Q (.bl true) H'
abbrev nLaw : List Str := ["_law_script", "_law_hand_here", "_law_turn", "_law_letters", "_law_row_here", "_law_out", "_law_many", "_law_other", "_law_one", "_law_due", "_law_letter"]
theorem scLaw : FnScope nLaw ["_law_script"] (defScope sLaw) := ⟨rfl, rfl, rfl, by decide +kernel, rfl, by decide +kernel, by decide +kernel⟩
theorem ok_Law {f : Addr} {fd : FuncData} (T : Txt K mg) (F : Fun K "law" "law" sLaw f fd) : FnOk P w K mg base CX0 9 f fd ["_law_script"] (spLaw K) := by
  obtain ⟨fHand, fdHand, FHand, mHand, bHand⟩ := T.hand
  have GHand := ok_Hand (P := P) (w := w) (base := base) T FHand
  obtain ⟨fDraw, fdDraw, FDraw, mDraw, bDraw⟩ := T.draw
  have GDraw := ok_Draw (P := P) (w := w) (base := base) T FDraw
  obtain ⟨fWide, fdWide, FWide, mWide, bWide⟩ := T.wide
  have GWide := ok_Wide (P := P) (w := w) (base := base) T FWide
  obtain ⟨fRow, fdRow, FRow, mRow, bRow⟩ := T.row
  have GRow := ok_Row (P := P) (w := w) (base := base) T FRow
  obtain ⟨fMade, fdMade, FMade, mMade, bMade⟩ := T.made
  have GMade := ok_Made (P := P) (w := w) (base := base) T FMade
  obtain ⟨fLevels, fdLevels, FLevels, mLevels, bLevels⟩ := T.levels
  have GLevels := ok_Levels (P := P) (w := w) (base := base) T FLevels
  obtain ⟨fIs, fdIs, FIs, mIs, bIs⟩ := T.isF
  have GIs := ok_Is (P := P) (w := w) (base := base) T FIs
  obtain ⟨fFewest, fdFewest, FFewest, mFewest, bFewest⟩ := T.fewest
  have GFewest := ok_Fewest (P := P) (w := w) (base := base) T FFewest
  obtain ⟨fIsThinning, fdIsThinning, FIsThinning, mIsThinning, bIsThinning⟩ := T.isThinning
  have GIsThinning := ok_IsThinning (P := P) (w := w) (base := base) T FIsThinning
  refine F.ok scLaw (fun vs H Q E h => ?_) (fun cdv A outer s H vs Q E hr h => ?_)
  · obtain ⟨a, ns, rfl, _⟩ := h
    rfl
  · obtain ⟨a, ns, rfl, hS, hl, k⟩ := h
    refine ⟨_, (pss_cons (ps_set (i := 1) scLaw.nd rfl (Or.inl rfl) (pe_call GHand (hr.mono (by decide)) (by rfl) mHand FHand.kp bHand .nil pass0 (pa_cons (pv 0) pa_nil)))
    (C8.pss_cut (ps_if (PW.pt (pw_and (pt_cmpR op_eq (pe_call GDraw (hr.mono (by decide)) (by rfl) mDraw FDraw.kp bDraw .nil pass0 (pa_cons (pv 1) (pa_cons pe_int pa_nil))) pe_int (nomark _)) (pw_and1 (pt_not (pt_val (pe_call GWide (hr.mono (by decide)) (by rfl) mWide FWide.kp bWide .nil pass0 (pa_cons (pv 1) pa_nil))))))) (pss_one (ps_ret pe_bl)) pss_nil)
    (pss_cons (ps_for PassesOwn.never rfl (pi_range1 (by rfl) T.b_range (pa_cons pe_int pa_nil)) (pg_name (i := 2) scLaw.nd rfl (Or.inl rfl))
      (pss_cons (ps_set (i := 3) scLaw.nd rfl (Or.inl rfl) (pe_op op_add pe_int (pe_call GDraw (hr.mono (by decide)) (by rfl) mDraw FDraw.kp bDraw .nil pass0 (pa_cons (pv 1) (pa_cons pe_int pa_nil)))))
    (pss_cons (ps_set (i := 4) scLaw.nd rfl (Or.inr rfl) (pe_call GRow (hr.mono (by decide)) (by rfl) mRow FRow.kp bRow .nil pass0 (pa_cons (pv 1) (pa_cons (pv 3) (pa_cons pe_int pa_nil)))))
    (pss_cons (ps_asg (pe_call GMade (hr.mono (by decide)) (by rfl) mMade FMade.kp bMade .nil pass0 (pa_cons (pv 1) (pa_cons (pv 4) pa_nil))) (pg_tup rfl (pgs_cons (pg_name (i := 5) scLaw.nd rfl (Or.inl rfl)) (pgs_cons (pg_name (i := 6) scLaw.nd rfl (Or.inl rfl)) pgs_nil))))
    (pss_cons (ps_set (i := 7) scLaw.nd rfl (Or.inl rfl) (pe_call GRow (hr.mono (by decide)) (by rfl) mRow FRow.kp bRow .nil pass0 (pa_cons (pv 1) (pa_cons (pv 3) (pa_cons pe_int pa_nil)))))
    (pss_cons (ps_for PassesOwn.never rfl (pi_list (pe_lst (pa_cons (pv 5) (pa_cons (pv 7) pa_nil)))) (pg_name (i := 8) scLaw.nd rfl (Or.inl rfl))
      (pss_cons (ps_set (i := 9) scLaw.nd rfl (Or.inl rfl) pe_non)
    (C8.pss_cut (ps_if (pt_val (pe_callB (cr_all rfl) (by rfl) T.b_all (by decide +kernel) (pa_cons (pe_lc (own := [("_law_letter", 10)]) (g := gName 10) (tt := tYes) rfl scLaw.nd (pi_tup (pv 8)) (blkOk_by (N := nLaw) (sc := defScope sLaw) (by decide +kernel)) (fun _ _ _ _ _ => (pg_name (i := 10) scLaw.nd rfl (Or.inl rfl))) (fun _ _ _ _ _ => pts_nil) (fun _ _ _ _ _ => (pe_cmpR (r := rIn K false) op_in_seq (pv 10) (pv 4) (by with_unfolding_all rfl)))) pa_nil))) (pss_one (ps_set (i := 9) scLaw.nd rfl (Or.inl rfl) (pe_dget (hu_of hr) (pe_call GLevels (hr.mono (by decide)) (by rfl) mLevels FLevels.kp bLevels .nil pass0 (pa_cons (pv 4) (pa_cons (pe_callB call_len_seq (by rfl) T.b_len (by decide +kernel) (pa_cons (pv 8) pa_nil)) pa_nil))) (pv 8) (fun _ _ => rfl)))) pss_nil)
    (pss_one (ps_if (PW.pt (pw_or (pt_not (pt_val (pe_call GIs (hr.mono (by decide)) (by rfl) mIs FIs.kp bIs .nil pass0 (pa_cons (pe_call GFewest (hr.mono (by decide)) (by rfl) mFewest FFewest.kp bFewest .nil pass0 (pa_cons (pv 4) (pa_cons (pv 8) pa_nil))) (pa_cons (pv 9) pa_nil))))) (pw_or1 (pt_cmpR op_ne (pe_cmpR op_eq (pv 9) pe_int (nomark _)) (pe_call GIsThinning (hr.mono (by decide)) (by rfl) mIsThinning FIsThinning.kp bIsThinning .nil pass0 (pa_cons (pv 4) (pa_cons (pv 8) pa_nil))) (nomark _))))) (pss_one (ps_ret pe_bl)) pss_nil)))))
    (pss_one (ps_if (pt_cmpR op_gt (pe_call GFewest (hr.mono (by decide)) (by rfl) mFewest FFewest.kp bFewest .nil pass0 (pa_cons (pv 4) (pa_cons (pv 5) pa_nil))) (pv 6) (nomark _)) (pss_one (ps_ret pe_bl)) pss_nil))))))))
    (pss_one (ps_ret pe_bl))))), ?_⟩
    refine ⟨_, rfl, a, ns, rfl, hS, hl, fun h c H1 s1 hh1 => ?_⟩
    clear hS s1
    -- the wide rows, now and then
    refine ⟨fun σ H' => σ = [some (.ref a), some (.ref h), none, none, none, none, none, none, none, none, none] ∧ Hand H' h c, ?_, ?_⟩
    · refine ⟨_, rfl, h, c, 8, rfl, hh1, by decide, by decide, fun d H2 b2 hh2 _ _ => ⟨rfl, _, rfl, ?_⟩⟩
      refine ite2 (fun _ => ?_) (fun _ => iteF ⟨rfl, hh2⟩)
      exact ⟨_, rfl, h, c, rfl, hh2, fun H3 b3 hh3 => ⟨_, rfl, iteF ⟨rfl, hh3⟩⟩⟩
    rintro σ H2 ⟨rfl, hh2⟩
    refine ⟨_, rfl, by decide, by decide, for_range (fun i σ H' => ∃ v2 v3 v4 v5 v6 v7 v8 v9 : Option V, σ = [some (.ref a), some (.ref h), v2, v3, v4, v5, v6, v7, v8, v9, none] ∧ Hand H' h c)
      ⟨_, _, _, _, _, _, _, _, rfl, hh2⟩ ?_ ?_⟩
    rotate_left
    · rintro σ H3 _
      exact k H3
    rintro i σ H3 hi ⟨v2, v3, v4, v5, v6, v7, v8, v9, rfl, hh3⟩
    -- letters, row, out and many, other
    refine ⟨_, rfl, h, c, 3, rfl, hh3, by decide, by decide, fun d0 H4 b4 hh4 d00 d01 => ?_⟩
    refine ⟨_, _, rfl, rfl, ?_⟩
    refine ⟨_, rfl, _, rfl, h, c, _, _, rfl, hh4, by omega, by omega, by decide, by decide, fun p r H5 b5 hh5 hp5 hr1 hr2 hrl => ?_⟩
    have hrL : Lets r := fun l hl => by
      have := hrl l hl
      omega
    have hv : Valid r := ⟨hr1, by omega, hrL⟩
    refine ⟨_, rfl, _, rfl, h, c, p, r, rfl, hh5, hp5, hr1, by omega, hrL, fun t q o m H6 b6 hh6 ht6 hq6 ho1 ho5 hor hom => ?_⟩
    refine ⟨t, _, rfl, SqT.of ht6, rfl, _, _, rfl, _, _, rfl, rfl, ?_⟩
    refine ⟨_, rfl, _, rfl, h, c, _, _, rfl, hh6, by omega, by omega, by decide, by decide, fun q2 o2 H7 b7 hh7 hq27 ho21 ho24 ho2l => ?_⟩
    have hp7 := (hp5.hand b6 hh5).hand b7 hh6
    have hq7 := hq6.hand b7 hh6
    -- both rows out, one by one
    refine ⟨_, rfl, _, rfl, (by show 2 ≤ sizeLine; decide), fun LA hLA => ?_⟩
    have s78 := same_new (o := .lst [.ref q, .ref q2]) hLA
    have hL8 : (upd H7 LA (.lst [.ref q, .ref q2])) LA = some (.lst [.ref q, .ref q2]) := upd_same
    have hp8 := hp7.same s78
    have hq8 := hq7.same s78
    have hq28 := hq27.same s78
    have hh8 := hh7.same s78
    generalize (upd H7 LA (.lst [.ref q, .ref q2])) = H8 at hL8 hp8 hq8 hq28 hh8
    refine ⟨LA, rfl, ⟨_, SqL.of hL8⟩, for_list (K := K) (a := LA) (xs := [.ref q, .ref q2]) (fun j σ H' => ∃ v8 v9 : Option V, σ = [some (.ref a), some (.ref h), some (.int (0 + (i : Int))), some (.int (2 + d0)), some (.ref p), some (.ref q), some (.int m), some (.ref q2), v8, v9, none] ∧ Same H8 H')
      ⟨_, _, rfl, Same.refl _⟩ (fun j σ H' _ ⟨_, _, _, q⟩ => SqL.of (q _ _ hL8)) ?_ ?_⟩
    · rintro j y σ H9 hy ⟨v8, v9, rfl, s9⟩
      obtain ⟨q0, o0, rfl, hq0, h01, h05, h0L⟩ : ∃ (q0 : Addr) (o0 : List Int), y = .ref q0 ∧ RowAt H9 q0 o0 ∧ 1 ≤ o0.length ∧ o0.length ≤ 5 ∧ Lets o0 := by
        match j, hy with
        | 0, hy => exact ⟨q, o, (Option.some.inj hy).symm, hq8.same s9, ho1, ho5, lets_of hrL hor⟩
        | 1, hy => exact ⟨q2, o2, (Option.some.inj hy).symm, hq28.same s9, ho21, by omega, fun l hl => by have := ho2l l hl; omega⟩
      clear hy
      have hp9 := hp8.same s9
      have hv0 : Valid o0 := ⟨h01, by omega, h0L⟩
      -- due
      refine ⟨fun σ H' => ∃ z : V, σ = [some (.ref a), some (.ref h), some (.int (0 + (i : Int))), some (.int (2 + d0)), some (.ref p), some (.ref q), some (.int m), some (.ref q2), some (.ref q0), some z, none] ∧ Same H9 H' ∧
        ((z = .non ∧ ∃ l ∈ o0, l ∉ r) ∨ ((∀ l ∈ o0, l ∈ r) ∧ ∃ d : Nat, z = .int d ∧ IsD r o0 d)), ?_, ?_⟩
      · refine ⟨_, rfl, q0, rfl, ⟨_, hq0.sq⟩, fun D hD => lc_tup (K := K) (a := q0) (xs := o0.map V.int) (fun n H' => Same H9 H' ∧ H' D = some (.lst (((o0.take n).map fun l => decide (l ∈ r)).map V.bl)))
          ⟨same_new hD, upd_same⟩ (fun n H' _ q => (hq0.same q.1).sq) ?_ ?_⟩
        · rintro n y H' hy ⟨g1, g2⟩
          obtain ⟨l, hl, rfl⟩ := at_map hy
          have hn := (List.getElem?_eq_some_iff.mp hl).1
          refine ⟨rfl, ?_⟩
          refine ⟨_, rfl, _, rfl, p, _, rfl, .inr (hp9.same g1).sq, rfl, flat_ints r, _, g2, ?_, same_upd g1 hD, ?_⟩
          · rw [List.length_map, List.length_map, List.length_take, sizeLine_eq]; omega
          · rw [upd_same, List.take_add_one, hl, Option.toList_some, List.map_append, List.map_append, inV_int]
            rfl
        rintro H10 ⟨g1, g2⟩
        rw [List.length_map, List.take_length] at g2
        refine ⟨D, _, rfl, SqL.of g2, _, rfl, ?_⟩
        refine ite2 (fun c1 => ?_) (fun c1 => ?_)
        · have hall : ∀ l ∈ o0, l ∈ r := fun l hl => by
            have := List.all_eq_true.mp c1 _ (List.mem_map.mpr ⟨l, hl, rfl⟩)
            simpa using this
          obtain ⟨d, hdn, hd⟩ := isD_some hall
          refine ⟨_, rfl, _, rfl, q0, _, rfl, .inr (hq0.same g1).sq, p, r, o0.length, ?_, hp9.same g1, by omega, hrL, h01, h05, fun dA kvs H11 s11 hdA hlv => ?_⟩
          · rw [List.length_map]; rfl
          refine ⟨_, rfl, dA, _, rfl, by rw [← hlv o0 rfl hall d hd]; exact DGet.t hdA ((hq0.same g1).same s11).key, ?_⟩
          exact ⟨_, rfl, g1.trans s11, .inr ⟨hall, d, rfl, hd⟩⟩
        · refine ⟨_, rfl, g1, .inl ⟨rfl, ?_⟩⟩
          apply Classical.byContradiction
          intro hne
          refine c1 (List.all_eq_true.mpr fun x hx => ?_)
          obtain ⟨l, hl, rfl⟩ := List.mem_map.mp hx
          have : l ∈ r := Classical.byContradiction fun hl2 => hne ⟨l, hl, hl2⟩
          simpa using this
      rintro σ H10 ⟨z, rfl, s10, hz⟩
      have hp10 := hp9.same s10
      have hq10 := hq0.same s10
      -- the end of a turn, whatever the two calls leave
      have fin : ∀ H11 : Hp, Same H10 H11 → ∃ v8 v9 : Option V, [some (V.ref a), some (.ref h), some (.int (0 + (i : Int))), some (.int (2 + d0)), some (.ref p), some (.ref q), some (.int m), some (.ref q2), some (.ref q0), some z, none] =
          [some (.ref a), some (.ref h), some (.int (0 + (i : Int))), some (.int (2 + d0)), some (.ref p), some (.ref q), some (.int m), some (.ref q2), v8, v9, none] ∧ Same H8 H11 := fun H11 s11 => ⟨_, _, rfl, (s9.trans s10).trans s11⟩
      refine ⟨_, rfl, _, rfl, p, q0, r, o0, rfl, hp10, hq10, hv, hv0, by omega, fun hno H11 s11 => ?_, fun hall d H11 hd s11 => ?_⟩
      · rcases hz with ⟨rfl, _⟩ | ⟨hall, _⟩
        · refine ⟨_, rfl, .non, rfl, .inl rfl, fun H12 s12 => ⟨_, rfl, iteF ?_⟩⟩
          refine ⟨_, rfl, rfl, _, rfl, _, rfl, p, q0, r, o0, rfl, (hp10.same s11).same s12, (hq10.same s11).same s12, hv, hv0, fun H13 s13 => ⟨rfl, _, rfl, ?_⟩⟩
          obtain ⟨l, h1, h2⟩ := hno
          rw [not_thin_of h1 h2]
          exact iteF (fin H13 ((s11.trans s12).trans s13))
        · obtain ⟨l, h1, h2⟩ := hno
          exact (h2 (hall l h1)).elim
      · rcases hz with ⟨rfl, l, h1, h2⟩ | ⟨_, d', rfl, hd'⟩
        · exact (h2 (hall l h1)).elim
        · obtain rfl := hd.uniq hd'
          refine ⟨_, rfl, .int d, rfl, .inr ⟨_, rfl⟩, fun H12 s12 => ⟨_, rfl, iteF ?_⟩⟩
          refine ⟨_, rfl, rfl, _, rfl, _, rfl, p, q0, r, o0, rfl, (hp10.same s11).same s12, (hq10.same s11).same s12, hv, hv0, fun H13 s13 => ⟨rfl, _, rfl, ?_⟩⟩
          have e : decide (V.int (d : Int) = V.int 0) = thinB r o0 := by
            have hz := isD_zero hd
            cases ht : thinB r o0 with
            | true => rw [hz.mpr ht]; rfl
            | false =>
              refine decide_eq_false fun e => ?_
              have e1 : (d : Int) = 0 := V.int.inj e
              have : thinB r o0 = true := hz.mp (by omega)
              rw [ht] at this; cases this
          rw [e]
          refine iteNS rfl ?_
          exact fin H13 ((s11.trans s12).trans s13)
    · rintro σ H9 ⟨v8, v9, rfl, s9⟩
      refine ⟨_, rfl, _, rfl, p, q, r, o, rfl, hp8.same s9, hq8.same s9, hv, ⟨ho1, by omega, lets_of hrL hor⟩, by omega, fun ⟨l, h1, h2⟩ => (h2 (hor l h1)).elim, fun _ d H10 hd s10 => ?_⟩
      refine ⟨_, rfl, _, _, rfl, rfl, _, rfl, ?_⟩
      have hle := hom d hd
      refine ite2 (fun c1 => ?_) (fun _ => ?_)
      · have : (m : Int) < (d : Int) := by simpa using c1
        omega
      · exact ⟨_, _, _, _, _, _, _, _, rfl, (hh8.same s9).same s10⟩
end
end K17
namespace K17
open PySem L2
theorem law_mk {P : Program} {w : World} {K : PySem.W.Frag} {h : Heap} {mg : Str → Option Value} {fa : Addr} (X : K.In h) (G : h.Ns mainGlobals mg) (T : Txt K mg) (hfa : mg "law" = some (.ref fa)) {od an : Option Addr} {sl : Array (Option Value)} {oc kV dc pm cd ct : Value} {f : Addr}
    (a : PySem.W.nsIn K mainGlobals "law" = some (some (.ref f))) (l : K.lookup f = some ⟨oc, od, .func (PySem.W.fnOf "law" "law" (defArgs sLaw) (defBody sLaw) (defScope sLaw) .none kV dc pm an cd ct), sl⟩) (c : PySem.W.codeIn K cd "law" = true) (k : PySem.W.keepIn K (.ref f) = true) :
    ∃ fd : FuncData, (∀ (s : Shared) (v : Value), BindsTo s fd ⟨[v], []⟩ [("_law_script", v)]) ∧ ∀ base : Heap, K.In base → base.Ns mainGlobals mg → FnOk P w K mg base CX0 9 fa fd ["_law_script"] (spLaw K) := by
  have e := hfa.symm.trans (PySem.W.mg_of X G a)
  cases e
  exact ⟨_, fun s v => .of_eq rfl, fun base _ _ => ok_Law T (fun_mk (st := sLaw) l c k)⟩
theorem walk {l : PySem.W.OpenLaw} {q : Program} {loose : List Str} {XP : (Str → Option Value) → Heap → Prop} {YP : World → Heap → Prop} {d : DefRec} {K : Params → PySem.W.Frag} (hn : l.most = some 63) (hdf : d.params.defaults = [])
    (hY : ∀ (w : World) (h : Heap), YP w h → (K w.params).In h)
    (F : ∀ (w : World) (mg : Str → Option Value) (fa : Addr) (h : Heap), (K w.params).In h → h.Ns mainGlobals mg → mg d.name = some (.ref fa) →
      ∃ fd : FuncData, (∀ (s : Shared) (u : Value), BindsTo s fd ⟨[u], []⟩ [("_law_script", u)]) ∧ ∀ base : Heap, (K w.params).In base → base.Ns mainGlobals mg → FnOk l.prog w (K w.params) mg base CX0 9 fa fd ["_law_script"] (spLaw (K w.params))) :
    PySem.W.WalkO q loose XP YP l.row.toRowW d [] (fun f vs => PySem.call f vs) :=
  L2.walk_of (n := 63) (k := 9) (x := "_law_script") (CX := fun _ => CX0) (sp := fun w => spLaw (K w.params)) hn (by decide) hdf ⟨rfl, by decide, by decide⟩ hY F (fun _ _ a ns hl _ hS => ⟨a, ns, rfl, hS, hl, fun _ => rfl⟩) fun _ _ _ _ _ z => z
end K17
open PySem PySem.W PyProof.Rows in
set_option maxRecDepth 100000 in
set_option maxHeartbeats 0 in
theorem PySem.Challenge.cw_flyovers_k17_whole_fewest_exchanges_holds : PySem.Challenge.rw_flyovers_k17_whole_fewest_exchanges.Holds := by
  w_on; o_law; k_head; (case hw => w_witness2)
  k_fill
  refine K17.walk (l := PySem.Challenge.rw_flyovers_k17_whole_fewest_exchanges) rfl rfl (fun w h Y => PySem.W.kIn_of Y) ?F
  case F =>
    intro w mg fa h KX G hmg
    refine' K17.law_mk KX G ⟨?x1, ?x2, ?x3, ?x4, ?x5, ?x6, ?x7, ?x8, ?x9, ?x10, ?x11, ?x12, ?x13, ?x14, ?x15, ?x16, ?x17, ?x18, ?x19, ?x20, ?x21, ?x22, ?x23, ?x24, ?x25, ?x26, ?x27, ?x28, ?x29, ?x30, ?x31, ?x32, ?x33, ?c1, ?c2, ?c3, ?z1, ?z2, ?z3, ?z4, ?z5, ?z6, ?z7, ?z8, ?z9, ?z10, ?z11, ?z12, ?z13⟩ hmg ?a ?l ?c ?k
    (case a => k_is)
    (case l => k_is)
    (case c => k_is)
    (case k => k_is)
    (case x1 => (refine' K17.has_mk KX G ?xa ?xl ?xc ?xk ?xb; (case xa => k_is); (case xl => k_is); (case xc => k_is); (case xk => k_is); (case xb => exact fun _ _ _ _ _ _ us hl => match us, hl with | [_], _ => rfl)))
    (case x2 => (refine' K17.has_mk KX G ?xa ?xl ?xc ?xk ?xb; (case xa => k_is); (case xl => k_is); (case xc => k_is); (case xk => k_is); (case xb => exact fun _ _ _ _ _ _ us hl => match us, hl with | [_, _, _], _ => rfl)))
    (case x3 => (refine' K17.has_mk KX G ?xa ?xl ?xc ?xk ?xb; (case xa => k_is); (case xl => k_is); (case xc => k_is); (case xk => k_is); (case xb => exact fun _ _ _ _ _ _ us hl => match us, hl with | [_, _], _ => rfl)))
    (case x4 => (refine' K17.has_mk KX G ?xa ?xl ?xc ?xk ?xb; (case xa => k_is); (case xl => k_is); (case xc => k_is); (case xk => k_is); (case xb => exact fun _ _ _ _ _ _ us hl => match us, hl with | [_, _], _ => rfl)))
    (case x5 => (refine' K17.has_mk KX G ?xa ?xl ?xc ?xk ?xb; (case xa => k_is); (case xl => k_is); (case xc => k_is); (case xk => k_is); (case xb => exact fun _ _ _ _ _ _ us hl => match us, hl with | [_], _ => rfl)))
    (case x6 => (refine' K17.has_mk KX G ?xa ?xl ?xc ?xk ?xb; (case xa => k_is); (case xl => k_is); (case xc => k_is); (case xk => k_is); (case xb => exact fun _ _ _ _ _ _ us hl => match us, hl with | [_], _ => rfl)))
    (case x7 => (refine' K17.has_mk KX G ?xa ?xl ?xc ?xk ?xb; (case xa => k_is); (case xl => k_is); (case xc => k_is); (case xk => k_is); (case xb => exact fun _ _ _ _ _ _ us hl => match us, hl with | [_, _, _], _ => rfl)))
    (case x8 => (refine' K17.has_mk KX G ?xa ?xl ?xc ?xk ?xb; (case xa => k_is); (case xl => k_is); (case xc => k_is); (case xk => k_is); (case xb => exact fun _ _ _ _ _ _ us hl => match us, hl with | [_, _], _ => rfl)))
    (case x9 => (refine' K17.has_mk KX G ?xa ?xl ?xc ?xk ?xb; (case xa => k_is); (case xl => k_is); (case xc => k_is); (case xk => k_is); (case xb => exact fun _ _ _ _ _ _ us hl => match us, hl with | [_, _], _ => rfl)))
    (case x10 => (refine' K17.has_mk KX G ?xa ?xl ?xc ?xk ?xb; (case xa => k_is); (case xl => k_is); (case xc => k_is); (case xk => k_is); (case xb => exact fun _ _ _ _ _ _ us hl => match us, hl with | [_, _], _ => rfl)))
    (case x11 => (refine' K17.has_mk KX G ?xa ?xl ?xc ?xk ?xb; (case xa => k_is); (case xl => k_is); (case xc => k_is); (case xk => k_is); (case xb => exact fun _ _ _ _ _ _ us hl => match us, hl with | [_, _], _ => rfl)))
    (case x12 => (refine' K17.has_mk KX G ?xa ?xl ?xc ?xk ?xb; (case xa => k_is); (case xl => k_is); (case xc => k_is); (case xk => k_is); (case xb => exact fun _ _ _ _ _ _ us hl => match us, hl with | [_, _, _, _], _ => rfl)))
    (case x13 => (refine' K17.has_mk KX G ?xa ?xl ?xc ?xk ?xb; (case xa => k_is); (case xl => k_is); (case xc => k_is); (case xk => k_is); (case xb => exact fun _ _ _ _ _ _ us hl => match us, hl with | [_, _, _, _], _ => rfl)))
    (case x14 => (refine' K17.has_mk KX G ?xa ?xl ?xc ?xk ?xb; (case xa => k_is); (case xl => k_is); (case xc => k_is); (case xk => k_is); (case xb => exact fun _ _ _ _ _ _ us hl => match us, hl with | [_], _ => rfl)))
    (case x15 => (refine' K17.has_mk KX G ?xa ?xl ?xc ?xk ?xb; (case xa => k_is); (case xl => k_is); (case xc => k_is); (case xk => k_is); (case xb => exact fun _ _ _ _ _ _ us hl => match us, hl with | [_, _], _ => rfl)))
    (case x16 => (refine' K17.has_mk KX G ?xa ?xl ?xc ?xk ?xb; (case xa => k_is); (case xl => k_is); (case xc => k_is); (case xk => k_is); (case xb => exact fun _ _ _ _ _ _ us hl => match us, hl with | [_], _ => rfl)))
    (case x17 => (refine' K17.has_mk KX G ?xa ?xl ?xc ?xk ?xb; (case xa => k_is); (case xl => k_is); (case xc => k_is); (case xk => k_is); (case xb => exact fun _ _ _ _ _ _ us hl => match us, hl with | [_, _], _ => rfl)))
    (case x18 => (refine' K17.has_mk KX G ?xa ?xl ?xc ?xk ?xb; (case xa => k_is); (case xl => k_is); (case xc => k_is); (case xk => k_is); (case xb => exact fun _ _ _ _ _ _ us hl => match us, hl with | [_, _], _ => rfl)))
    (case x19 => (refine' K17.has_mk KX G ?xa ?xl ?xc ?xk ?xb; (case xa => k_is); (case xl => k_is); (case xc => k_is); (case xk => k_is); (case xb => exact fun _ _ _ _ _ _ us hl => match us, hl with | [_], _ => rfl)))
    (case x20 => (refine' K17.has_mk KX G ?xa ?xl ?xc ?xk ?xb; (case xa => k_is); (case xl => k_is); (case xc => k_is); (case xk => k_is); (case xb => exact fun _ _ _ _ _ _ us hl => match us, hl with | [_, _], _ => rfl)))
    (case x21 => (refine' K17.has_mk KX G ?xa ?xl ?xc ?xk ?xb; (case xa => k_is); (case xl => k_is); (case xc => k_is); (case xk => k_is); (case xb => exact fun _ _ _ _ _ _ us hl => match us, hl with | [_, _], _ => rfl)))
    (case x22 => (refine' K17.has_mk KX G ?xa ?xl ?xc ?xk ?xb; (case xa => k_is); (case xl => k_is); (case xc => k_is); (case xk => k_is); (case xb => exact fun _ _ _ _ _ _ us hl => match us, hl with | [_, _], _ => rfl)))
    (case x23 => (refine' K17.has_mk KX G ?xa ?xl ?xc ?xk ?xb; (case xa => k_is); (case xl => k_is); (case xc => k_is); (case xk => k_is); (case xb => exact fun _ _ _ _ _ _ us hl => match us, hl with | [_, _, _], _ => rfl)))
    (case x24 => (refine' K17.has_mk KX G ?xa ?xl ?xc ?xk ?xb; (case xa => k_is); (case xl => k_is); (case xc => k_is); (case xk => k_is); (case xb => exact fun _ _ _ _ _ _ us hl => match us, hl with | [_, _, _], _ => rfl)))
    (case x25 => (refine' K17.has_mk KX G ?xa ?xl ?xc ?xk ?xb; (case xa => k_is); (case xl => k_is); (case xc => k_is); (case xk => k_is); (case xb => exact fun _ _ _ _ _ _ us hl => match us, hl with | [_], _ => rfl)))
    (case x26 => (refine' K17.has_mk KX G ?xa ?xl ?xc ?xk ?xb; (case xa => k_is); (case xl => k_is); (case xc => k_is); (case xk => k_is); (case xb => exact fun _ _ _ _ _ _ us hl => match us, hl with | [_, _], _ => rfl)))
    (case x27 => (refine' K17.has_mk KX G ?xa ?xl ?xc ?xk ?xb; (case xa => k_is); (case xl => k_is); (case xc => k_is); (case xk => k_is); (case xb => exact fun _ _ _ _ _ _ us hl => match us, hl with | [_, _], _ => rfl)))
    (case x28 => (refine' K17.has_mk KX G ?xa ?xl ?xc ?xk ?xb; (case xa => k_is); (case xl => k_is); (case xc => k_is); (case xk => k_is); (case xb => exact fun _ _ _ _ _ _ us hl => match us, hl with | [_, _, _, _], _ => rfl)))
    (case x29 => (refine' K17.has_mk KX G ?xa ?xl ?xc ?xk ?xb; (case xa => k_is); (case xl => k_is); (case xc => k_is); (case xk => k_is); (case xb => exact fun _ _ _ _ _ _ us hl => match us, hl with | [_], _ => rfl)))
    (case x30 => (refine' K17.has_mk KX G ?xa ?xl ?xc ?xk ?xb; (case xa => k_is); (case xl => k_is); (case xc => k_is); (case xk => k_is); (case xb => exact fun _ _ _ _ _ _ us hl => match us, hl with | [_, _], _ => rfl)))
    (case x31 => (refine' K17.has_mk KX G ?xa ?xl ?xc ?xk ?xb; (case xa => k_is); (case xl => k_is); (case xc => k_is); (case xk => k_is); (case xb => exact fun _ _ _ _ _ _ us hl => match us, hl with | [_, _], _ => rfl)))
    (case x32 => (refine' K17.has_mk KX G ?xa ?xl ?xc ?xk ?xb; (case xa => k_is); (case xl => k_is); (case xc => k_is); (case xk => k_is); (case xb => exact fun _ _ _ _ _ _ us hl => match us, hl with | [_, _], _ => rfl)))
    (case x33 => (refine' K17.has_mk KX G ?xa ?xl ?xc ?xk ?xb; (case xa => k_is); (case xl => k_is); (case xc => k_is); (case xk => k_is); (case xb => exact fun _ _ _ _ _ _ us hl => match us, hl with | [_], _ => rfl)))
    (case c1 => (refine' K17.const_mk KX G ?ca; (case ca => k_is)))
    (case c2 => (refine' K17.const_mk KX G ?ca; (case ca => k_is)))
    (case c3 => (refine' K17.const_mk KX G ?ca; (case ca => k_is)))
    (case z1 => (refine' PySem.W.mg_none_of KX G ?za; (case za => k_is)))
    (case z2 => (refine' PySem.W.mg_none_of KX G ?za; (case za => k_is)))
    (case z3 => (refine' PySem.W.mg_none_of KX G ?za; (case za => k_is)))
    (case z4 => (refine' PySem.W.mg_none_of KX G ?za; (case za => k_is)))
    (case z5 => (refine' PySem.W.mg_none_of KX G ?za; (case za => k_is)))
    (case z6 => (refine' PySem.W.mg_none_of KX G ?za; (case za => k_is)))
    (case z7 => (refine' PySem.W.mg_none_of KX G ?za; (case za => k_is)))
    (case z8 => (refine' PySem.W.mg_none_of KX G ?za; (case za => k_is)))
    (case z9 => (refine' PySem.W.mg_none_of KX G ?za; (case za => k_is)))
    (case z10 => (refine' PySem.W.mg_none_of KX G ?za; (case za => k_is)))
    (case z11 => (refine' PySem.W.mg_none_of KX G ?za; (case za => k_is)))
    (case z12 => (refine' PySem.W.mg_none_of KX G ?za; (case za => k_is)))
    (case z13 => (refine' PySem.W.mg_none_of KX G ?za; (case za => k_is)))
#print axioms PySem.Challenge.cw_flyovers_k17_whole_fewest_exchanges_holds
