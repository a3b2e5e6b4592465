import PyProof.Rows.All
import Wide.All
import OpenK.AllK
import Wide.FinOn
import PySem.Challenge.RW_pq0443_01
open PySem PySem.W PyProof.Rows
set_option Elab.async false
set_option maxRecDepth 100000
set_option maxHeartbeats 8000000
/-! T1 -/
namespace Mine
open_top hd for PySem.Challenge.rw_pq0443_01
end Mine
/-! C1 -/
namespace Mine
open PySem PySem.W PyProof.Rows PySem.Calls
noncomputable abbrev PG : Program := PySem.Challenge.rw_pq0443_01.row.prog
noncomputable abbrev LO : List Str := looseW hd.view_39 [Str.ofString "GateloomError"]
noncomputable abbrev TP (mean : ExcName → Option Value) (mg mb : Str → Option Value) (h : Heap) : Prop := Top hd.view_39 LO mean mg mb h
noncomputable abbrev KK (w : World) : Frag := hd.heap_39 w.params

theorem ints_split {vs : List Value} {ns : List Int} (I : IntsAre vs ns) (h : ns ≠ []) : ∃ i ti vs' ns', vs = .int i ti :: vs' ∧ ns = i :: ns' ∧ IntsAre vs' ns' := by
  cases I with
  | nil => exact absurd rfl h
  | cons i ti I' => exact ⟨i, ti, _, _, rfl, rfl, I'⟩

theorem bolt_ct {w : World} {mean : ExcName → Option Value} {mg mb : Str → Option Value} {dp un : Nat} {gd : Option (List Code)} {cn : Str} {cs : Scope} {a : Addr} {ccd : Value} {cl : List (Str × Addr)} {outer : List Env} {A₀ : Around} {base h₀ : Heap} {L : Addr} {m : Str → Option Value}
    {s : Shared} {l : Addr} {vs : List Value} {ns : List Int} {n : Nat} {rest : List (Addr × Obj)} {k : Int} {t : Tok} {Q E : Value → Shared → Prop}
    (B : Below A₀ base outer h₀) (F : Fr h₀ L s.heap m) (X : Frag.In (hd.heap_39 w.params) h₀) (N : News h₀ L s.heap ((l, listOf vs.toArray n) :: rest)) (O : OwnOff rest [l]) (I : IntsAre vs ns)
    (T : Top hd.view_39 LO mean mg mb h₀) (hk : cs.kind = .function) (hd : dp + 1 < recursionLimit) (hu : un + 500 < cLine) (h0 : 0 < k) (h1 : k < 1000) (hl : ns.length ≤ 1000)
    (ret : ∀ r t' vs' ns' n' h' tk', Fr h₀ L h' m → News h₀ L h' ((l, listOf vs'.toArray n') :: rest) → IntsAre vs' ns' → ns'.length ≤ ns.length → 0 ≤ r → r < k → Q (.int r t') { s with heap := h', toks := tk' }) :
    wpAny (model PG w) (ktrTop dp un gd cn cs L a ccd cl outer) (call (.ref 94) [.ref l, .int k t]) Q E s := by
  k_with_none
  w_top off
  refine wpAny_call ?_
  k_dflt ktr_enter
  k_steps
  · exact ret 0 _ vs ns _ _ _ (by assumption) (fun p hp => by (rename News h₀ L _ _ => kN); exact kN p (.tail _ hp)) I (Nat.le_refl _) (Int.le_refl _) h0
  · rename (decide _ = false) => hq
    obtain ⟨i, ti, vs', ns', rfl, rfl, I'⟩ := ints_split I (by simpa using hq)
    have hlen := I'.length
    (k_dflt (refine' kl_popAt (k := 0) (p := []) (y := .int i ti) (q := vs') (its := (Value.int i ti :: vs').toArray) ?F ?N rfl ?hk rfl ?U ?z ?_))
    case F => k_asm
    case N => k_asm
    case U => k_upd
    case hk => simp [seqIndex?]
    case z => rw [sizeLine_eq]; simp only [List.length_cons] at *; omega
    intro h' F' N'
    dsimp only [List.nil_append, List.cons_append] at N'
    k_steps
    exact ret (i.fmod k) _ vs' ns' (n + 1) _ _ (by assumption) (fun p hp => by (rename News h₀ L _ _ => kN); exact kN p (.tail _ hp)) I' (by simp) (Int.fmod_nonneg_of_pos i h0) (Int.fmod_lt_of_pos i h0)
end Mine
/-! C3 -/
namespace Mine
open PySem PySem.W PyProof.Rows PySem.Calls

theorem skip2 {h₀ h : Heap} {L : Addr} {p1 p2 p3 : Addr × Obj} {rest : List (Addr × Obj)} (N : News h₀ L h (p1 :: p2 :: p3 :: rest)) : News h₀ L h (p1 :: rest) := fun p hp => N p (by
  simp only [List.mem_cons] at hp ⊢
  rcases hp with h | h <;> simp [h])
theorem bolts_ct {w : World} {mean : ExcName → Option Value} {mg mb : Str → Option Value} {dp un : Nat} {gd : Option (List Code)} {cn : Str} {cs : Scope} {a : Addr} {ccd : Value} {cl : List (Str × Addr)} {outer : List Env} {A₀ : Around} {base h₀ : Heap} {L : Addr} {m : Str → Option Value}
    {s : Shared} {l : Addr} {vs : List Value} {ns : List Int} {news : List (Addr × Obj)} {Q E : Value → Shared → Prop}
    (B : Below A₀ base outer h₀) (F : Fr h₀ L s.heap m) (X : Frag.In (hd.heap_39 w.params) h₀) (N : News h₀ L s.heap news) (hL : h₀.IsList l vs.toArray) (I : IntsAre vs ns)
    (T : Top hd.view_39 LO mean mg mb h₀) (hk : cs.kind = .function) (hd : dp + 5 < recursionLimit) (hu : un + 600 < cLine) (hl : ns.length ≤ 63)
    (ret : ∀ b vs' ns' n' h' tk', Fr h₀ L h' m → News h₀ L h' ((b, listOf vs'.toArray n') :: news) → (∀ q ∈ news, q.1 ≠ b) → IntsAre vs' ns' → ns'.length ≤ 60 → Q (.ref b) { s with heap := h', toks := tk' }) :
    wpAny (model PG w) (ktrTop dp un gd cn cs L a ccd cl outer) (call (.ref 87) [.ref l]) Q E s := by
  k_with_none
  w_top off
  (k_with "pyIter ref" => (fail "by hand"))
  refine wpAny_call ?_
  k_dflt ktr_enter
  rename Fr h₀ L _ _ => FG9
  have hL9 := stays_list FG9.keep hL
  (repeat' ((fail_if_success (with_reducible show wpAny _ _ (pyIter _) _ _ _)); (first | (k_unfold; (try dsimp only)) | (k_end; wrow_close) | walk1 | (dsimp only; walk1) | (leave1; walk_say "STEP leave1"; try dsimp only) | fail "no step")))
  k_state (fun pre tin => tin.length ≤ 9 * pre.length) "tin"
  · (repeat' ((fail_if_success (with_reducible show wpAny _ _ (pyIter _) _ _ _)); (first | (k_unfold; (try dsimp only)) | (k_end; wrow_close) | walk1 | (dsimp only; walk1) | (leave1; walk_say "STEP leave1"; try dsimp only) | fail "no step")))
    all_goals (k_state_given ["tin!"] (fun t0 pre tin lf => tin.length ≤ t0.length + pre.length) "tin" "left")
    all_goals k_steps
  · k_steps
    rename News h₀ L _ _ => kN
    rename (_ ∧ _ ∧ AllLt _ _) => hAL
    rename (List.length (List.take 60 _) = _) => hLn
    rename IntsAre _ (List.take 60 _) => hIA
    exact ret _ _ _ _ _ _ (by assumption) (skip2 kN) (fun q hq => Nat.ne_of_lt (tb_ltOf hAL.2.2 q hq)) hIA (by omega)
end Mine
/-! C2 -/
namespace Mine
open PySem PySem.W PyProof.Rows PySem.Calls

theorem bolt_at {w : World} {mean : ExcName → Option Value} {mg mb : Str → Option Value} {dp un : Nat} {gd : Option (List Code)} {cn : Str} {cs : Scope} {a : Addr} {ccd : Value} {cl : List (Str × Addr)} {outer : List Env} {A₀ : Around} {base h₀ : Heap} {L : Addr} {m : Str → Option Value}
    {s : Shared} {l : Addr} {vs : List Value} {ns : List Int} {n : Nat} {news : List (Addr × Obj)} {g : Obj → List (Addr × Obj)} {k : Int} {t : Tok} {Q E : Value → Shared → Prop}
    (B : Below A₀ base outer h₀) (F : Fr h₀ L s.heap m) (X : Frag.In (hd.heap_39 w.params) h₀) (N : News h₀ L s.heap news) (U : UpdF l (listOf vs.toArray n) news g) (I : IntsAre vs ns)
    (T : Top hd.view_39 LO mean mg mb h₀) (hk : cs.kind = .function) (hd : dp + 1 < recursionLimit) (hu : un + 500 < cLine) (h0 : 0 < k) (h1 : k < 1000) (hl : ns.length ≤ 1000)
    (ret : ∀ r t' vs' ns' n' h' tk', Fr h₀ L h' m → News h₀ L h' (g (listOf vs'.toArray n')) → IntsAre vs' ns' → ns'.length ≤ ns.length → 0 ≤ r → r < k → Q (.int r t') { s with heap := h', toks := tk' }) :
    wpAny (model PG w) (ktrTop dp un gd cn cs L a ccd cl outer) (call (.ref 94) [.ref l, .int k t]) Q E s := by
  obtain ⟨pre, post, rfl, hg, ha, hb⟩ := U.split
  refine bolt_ct (rest := pre ++ post) (vs := vs) (ns := ns) (n := n) B F X (fun p hp => N p ?_) ?_ I T hk hd hu h0 h1 hl fun r t' vs' ns' n' h' tk' F' N' I' c1 c2 c3 => ret r t' vs' ns' n' h' tk' F' (fun p hp => N' p ?_) I' c1 c2 c3
  · rcases List.mem_cons.mp hp with rfl | hp
    · exact List.mem_append.mpr (.inr (.head _))
    · rcases List.mem_append.mp hp with hp | hp
      · exact List.mem_append.mpr (.inl hp)
      · exact List.mem_append.mpr (.inr (.tail _ hp))
  · intro p hp b hb'
    rw [List.mem_singleton.mp hb']
    exact (List.mem_append.mp hp).elim (ha p) (hb p)
  · rw [hg] at hp
    rcases List.mem_append.mp hp with hp | hp
    · exact .tail _ (List.mem_append.mpr (.inl hp))
    · rcases List.mem_cons.mp hp with rfl | hp
      · exact .head _
      · exact .tail _ (List.mem_append.mpr (.inr hp))

local macro_rules | `(tactic| walk_at "call ref") => `(tactic| (k_here; k_dflt (refine' bolt_at ?B ?F ?X ?N ?U ?I ?T ?hk ?hd ?hu ?h0 ?h1 ?hl ?_; (case B => k_asm); (case F => k_asm); (case X => k_asm); (case N => k_asm); (case U => k_updF); (case I => k_asm); (case T => k_asm); (case hk => first | exact rfl | assumption); (case hd => ktr_room); (case hu => ktr_units); (case h0 => omega); (case h1 => omega); (case hl => omega); k_whole); intro r t' vs' ns' n' h' tk' F' N' I' hl' h0' h1'; (try dsimp only at N'); (try dsimp only); (try k_fold)))

local macro_rules | `(tactic| walk_at "call type:range") => `(tactic| (k_here; (rename Fr _ _ _ _ => F'); (rename News _ _ _ _ => N'); (with_unfolding_all refine range1_rows F' N' ?_; intro _ _ _ _ _ _ _ _ _)))

/-- a connection as data -/
def ConnD (names : List Str) (k : Int) (p : Str) (d : Dat) : Prop := ∃ nm e, d = .tuple [nm, e] ∧ (nm = .none ∨ ∃ x, nm = .str x ∧ x ∈ names) ∧ (e = .none ∨ ∃ i : Int, 0 ≤ i ∧ i < 9 ∧ e = .tuple [.str "id", .int k, .str (p ++ Str.ofString (toString i))])
abbrev NM : List Str := ["a", "b", "c", "d", "q"]
abbrev ND : List Dat := [.str "a", .str "b", .str "c", .str "d", .str "q"]
theorem nd_mem {d : Dat} (h : d ∈ ND) : ∃ x, d = .str x ∧ x ∈ NM := by
  simp only [ND, List.mem_cons, List.not_mem_nil, or_false] at h
  rcases h with rfl | rfl | rfl | rfl | rfl <;> exact ⟨_, rfl, by simp [NM]⟩
theorem nd_all (t1 t2 t3 t4 t5 : Tok) (L : List (Addr × Obj)) : DatAll L [.str "a" t1, .str "b" t2, .str "c" t3, .str "d" t4, .str "q" t5] ND := .cons (.str _ _) (.cons (.str _ _) (.cons (.str _ _) (.cons (.str _ _) (.cons (.str _ _) .nil))))
theorem news_ne {h₀ h : Heap} {L a b : Addr} {o o' : Obj} {news : List (Addr × Obj)} (N : News h₀ L h news) (ha : (a, o) ∈ news) (hb : (b, o') ∈ news) (hc : o.cls ≠ o'.cls) : a ≠ b := by
  intro e
  have h1 := (N _ ha).1
  have h2 := (N _ hb).1
  simp only at h1 h2
  rw [e, h2] at h1
  exact hc (by rw [Option.some.inj h1])
theorem fin_news {h₀ h : Heap} {L : Addr} {p1 p2 p3 p4 : Addr × Obj} {rest tl : List (Addr × Obj)} (N : News h₀ L h (p1 :: p2 :: p3 :: p4 :: (rest ++ tl))) : News h₀ L h (p3 :: ((p1 :: p4 :: tl) ++ rest)) := fun p hp => N p (by
  simp only [List.mem_cons, List.mem_append, List.cons_append] at hp ⊢
  rcases hp with h | h | h | h | h <;> simp [h])
theorem fin_sub {p1 p4 : Addr × Obj} {rest tl : List (Addr × Obj)} : ∀ p ∈ p4 :: (rest ++ tl), p ∈ (p1 :: p4 :: tl) ++ rest := fun p hp => by
  simp only [List.mem_cons, List.mem_append, List.cons_append] at hp ⊢
  rcases hp with h | h | h <;> simp [h]
theorem connD_nn {names k p} : ConnD names k p (.tuple [.none, .none]) := ⟨_, _, rfl, .inl rfl, .inl rfl⟩
theorem connD_ne {names k p} {i : Int} (h0 : 0 ≤ i) (h1 : i < 9) : ConnD names k p (.tuple [.none, .tuple [.str "id", .int k, .str (p ++ Str.ofString (toString i))]]) := ⟨_, _, rfl, .inl rfl, .inr ⟨i, h0, h1, rfl⟩⟩
theorem connD_sn {k p} {d : Dat} (h : d ∈ ND) : ConnD NM k p (.tuple [d, .none]) := ⟨_, _, rfl, .inr (nd_mem h), .inl rfl⟩
theorem connD_se {k p} {d : Dat} {i : Int} (h : d ∈ ND) (h0 : 0 ≤ i) (h1 : i < 9) : ConnD NM k p (.tuple [d, .tuple [.str "id", .int k, .str (p ++ Str.ofString (toString i))]]) := ⟨_, _, rfl, .inr (nd_mem h), .inr ⟨i, h0, h1, rfl⟩⟩

theorem conns_ct {w : World} {mean : ExcName → Option Value} {mg mb : Str → Option Value} {dp un : Nat} {gd : Option (List Code)} {cn : Str} {cs : Scope} {a : Addr} {ccd : Value} {cl : List (Str × Addr)} {outer : List Env} {A₀ : Around} {base h₀ : Heap} {L : Addr} {m : Str → Option Value}
    {s : Shared} {l l2 : Addr} {vs : List Value} {ns : List Int} {n n2 : Nat} {rest : List (Addr × Obj)} {t1 t2 t3 t4 t5 : Tok} {Q E : Value → Shared → Prop}
    (B : Below A₀ base outer h₀) (F : Fr h₀ L s.heap m) (X : Frag.In (hd.heap_39 w.params) h₀) (N : News h₀ L s.heap ((l, listOf vs.toArray n) :: (l2, listOf [.str "a" t1, .str "b" t2, .str "c" t3, .str "d" t4, .str "q" t5].toArray n2) :: rest)) (O : OwnOff rest [l, l2]) (hne : l2 ≠ l) (I : IntsAre vs ns)
    (T : Top hd.view_39 LO mean mg mb h₀) (hk : cs.kind = .function) (hd : dp + 5 < recursionLimit) (hu : un + 600 < cLine) (hl : ns.length ≤ 1000)
    (ret : ∀ b us ds vs' ns' n' n2' tl h' tk', Fr h₀ L h' m → News h₀ L h' ((l, listOf vs'.toArray n') :: (tl ++ rest)) → IntsAre vs' ns' → ns'.length ≤ ns.length → OwnOff tl [l] → (b, ({ cls := .type "tuple", data := .seq us.toArray n2' } : Obj)) ∈ tl → DatAll (tl ++ rest) us ds → ds.length ≤ 5 → (∀ d ∈ ds, ConnD NM 3 "s" d) → Q (.ref b) { s with heap := h', toks := tk' }) :
    wpAny (model PG w) (ktrTop dp un gd cn cs L a ccd cl outer) (call (.ref 101) [.ref l, .ref l2]) Q E s := by
  k_with_none
  w_top off
  (k_with "state" => (refine ⟨by omega, by simp only [List.length_append, List.length_cons, List.length_nil]; omega, List.forall_mem_append.mpr ⟨by assumption, List.forall_mem_cons.mpr ⟨?_, List.forall_mem_nil _⟩⟩⟩; first | exact connD_nn | exact connD_ne (by omega) (by omega) | exact connD_sn (by assumption) | exact connD_se (by assumption) (by omega) (by omega)))
  refine wpAny_call ?_
  k_dflt ktr_enter
  (repeat' ((fail_if_success (with_reducible show wpAny _ _ (pyIter _) _ _ _)); (first | (k_unfold; (try dsimp only)) | (k_end; wrow_close) | walk1 | (dsimp only; walk1) | (leave1; walk_say "STEP leave1"; try dsimp only) | fail "no step")))
  k_dat (fun pre tin found => tin.length ≤ ns.length ∧ found.length = pre.length ∧ ∀ d ∈ found, ConnD NM 3 "s" d) "tin" "found*"
  · k_steps
    (with_unfolding_all refine' kd_item (us := [.str "a" t1, .str "b" t2, .str "c" t3, .str "d" t4, .str "q" t5]) (ds := ND) ?k1 ?k2 (nd_all t1 t2 t3 t4 t5 []) ?k4 ?k5 ?k6 ?_ ?k7)
    case k1 => k_asm
    case k2 => k_memK
    case k4 => omega
    case k5 => (simp only [ND, List.length_cons, List.length_nil]; omega)
    case k6 => omega
    case k7 => with_unfolding_all rfl
    intro v' d' hk' hm' hD'
    k_steps
  · k_steps
    rename News h₀ L _ _ => kN
    rename DatAll _ _ _ => hDA
    rename IntsAre _ _ => hIA
    rename OwnOff kTl _ => hOff
    rename (∀ d ∈ _, ConnD _ _ _ d) => hCD
    rename (List.length _ = (rangeKs _ _).length) => hLn
    refine ret _ _ _ _ _ _ _ _ _ _ (by assumption) (fin_news kN) hIA (by assumption) ?off (.head _) (hDA.mono fin_sub) ?five hCD
    case off =>
      intro p hp b hb
      rw [List.mem_singleton.mp hb]
      rcases List.mem_cons.mp hp with rfl | hp
      · exact news_ne kN (.head _) (.tail _ (.tail _ (.head _))) (by simp)
      · rcases List.mem_cons.mp hp with rfl | hp
        · exact hne
        · exact hOff p hp l (by simp)
    case five => rw [hLn, rangeKs_length]; omega
end Mine
/-! PL -/
namespace Mine
open PySem PySem.W PyProof.Rows PySem.Calls
/-- the name in a connection's datum, its expression -/
def cnName : Dat → Option Str
  | .tuple [.str x, _] => some x
  | _ => none
def cnE : Dat → Dat
  | .tuple [_, e] => e
  | _ => .none
def pick (ps : List Str) (i : Nat) (d : Dat) : Option Str := match cnName d with
  | none => ps[i]?
  | some x => some x
/-- what both functions do with the connections, one after the other -/
def runC (ps : List Str) : Nat → List Dat → List (Str × Dat) → Except Str (List (Str × Dat))
  | _, [], left => .ok left
  | i, d :: r, left => match pick ps i d with
    | none => .error "too_many_ports"
    | some x => if x ∈ ps then (if x ∈ left.map (·.1) then .error "port_connected_twice" else runC ps (i + 1) r (left ++ [(x, cnE d)])) else .error "unknown_port"
def lookD (left : List (Str × Dat)) (p : Str) : Dat := ((left.find? fun kv => decide (kv.1 = p)).map (·.2)).getD .none
def resD (ps : List Str) : Except Str (List (Str × Dat)) → Dat
  | .ok left => .list (ps.map fun p => .tuple [.str p, lookD left p])
  | .error k => .tuple [.str k, .int 12]
/-- a dict's pairs told by data -/
inductive PairsD (led : List (Addr × Obj)) : List (Str × Value) → List (Str × Dat) → Prop
  | nil : PairsD led [] []
  | cons {x : Str} {v : Value} {d : Dat} {kvs : List (Str × Value)} {l : List (Str × Dat)} : DatIn led v d → PairsD led kvs l → PairsD led ((x, v) :: kvs) ((x, d) :: l)
section
variable {led led' : List (Addr × Obj)} {kvs : List (Str × Value)} {l : List (Str × Dat)}
theorem PairsD.mono (hs : ∀ p ∈ led, p ∈ led') (h : PairsD led kvs l) : PairsD led' kvs l := by
  induction h with
  | nil => exact .nil
  | cons h _ ih => exact .cons (h.mono hs) ih
theorem PairsD.keys (h : PairsD led kvs l) : kvs.map (·.1) = l.map (·.1) := by
  induction h with
  | nil => rfl
  | cons h _ ih => rw [List.map_cons, List.map_cons, ih]
theorem PairsD.length (h : PairsD led kvs l) : kvs.length = l.length := by
  have := congrArg List.length h.keys
  simpa using this
theorem PairsD.snoc {x : Str} {v : Value} {d : Dat} (h : PairsD led kvs l) (hd : DatIn led v d) : PairsD led (kvs ++ [(x, v)]) (l ++ [(x, d)]) := by
  induction h with
  | nil => exact .cons hd .nil
  | cons h _ ih => exact .cons h ih
theorem PairsD.at_none {x : Str} (h : PairsD led kvs l) : (valueAt kvs x).isSome = decide (x ∈ l.map (·.1)) := by
  induction h with
  | nil => rfl
  | @cons y v d kvs l h _ ih =>
    unfold valueAt at ih ⊢
    rw [List.find?_cons]
    by_cases hy : y = x
    · simp [hy]
    · have hy' : ¬ x = y := fun e => hy e.symm
      simp only [hy, decide_false]
      rw [ih]
      simp [hy']
theorem PairsD.at_some {x : Str} (h : PairsD led kvs l) (hx : x ∈ l.map (·.1)) : ∃ v, valueAt kvs x = some v ∧ DatIn led v (lookD l x) := by
  induction h with
  | nil => simp at hx
  | @cons y v d kvs l h _ ih =>
    unfold valueAt lookD at ih ⊢
    rw [List.find?_cons, List.find?_cons]
    by_cases hy : y = x
    · subst hy
      simp only [decide_true]
      exact ⟨v, rfl, h⟩
    · have hy' : ¬ x = y := fun e => hy e.symm
      simp only [hy, decide_false]
      simp only [List.map_cons, List.mem_cons, hy', false_or] at hx
      exact ih hx
theorem lookD_none {l : List (Str × Dat)} {x : Str} (hx : x ∉ l.map (·.1)) : lookD l x = .none := by
  unfold lookD
  have : l.find? (fun kv => decide (kv.1 = x)) = none := by
    rw [List.find?_eq_none]
    intro kv hkv hq
    exact hx (List.mem_map.mpr ⟨kv, hkv, by simpa using hq⟩)
  rw [this]; rfl
theorem stored_new {x : Str} {v : Value} (h : PairsD led kvs l) (hx : x ∉ l.map (·.1)) : stored kvs x v = kvs ++ [(x, v)] := by
  unfold stored
  rw [if_neg]
  intro hq
  rw [List.any_eq_true] at hq
  obtain ⟨kv, hkv, e⟩ := hq
  exact hx (h.keys ▸ List.mem_map.mpr ⟨kv, hkv, by simpa using e⟩)
end
/-- the texts of a list -/
inductive StrsD : List Value → List Str → Prop
  | nil : StrsD [] []
  | cons (x : Str) (t : Tok) {vs : List Value} {xs : List Str} : StrsD vs xs → StrsD (.str x t :: vs) (x :: xs)
theorem StrsD.all {vs : List Value} {xs : List Str} (h : StrsD vs xs) (led : List (Addr × Obj)) : DatAll led vs (xs.map .str) := by
  induction h with
  | nil => exact .nil
  | cons x t _ ih => exact .cons (.str x t) ih
theorem StrsD.length {vs : List Value} {xs : List Str} (h : StrsD vs xs) : vs.length = xs.length := by
  induction h with
  | nil => rfl
  | cons x t _ ih => simp [ih]
theorem StrsD.get {vs : List Value} {xs : List Str} (h : StrsD vs xs) {i : Nat} (hi : i < xs.length) : ∃ t, vs[i]? = some (.str (xs[i]'hi) t) := by
  induction h generalizing i with
  | nil => simp at hi
  | cons x t _ ih =>
    cases i with
    | zero => exact ⟨t, rfl⟩
    | succ i => exact ih (Nat.lt_of_succ_lt_succ hi)
theorem connD_open {led : List (Addr × Obj)} {v : Value} {d : Dat} {names : List Str} {k : Int} {p : Str} (h : DatIn led v d) (hc : ConnD names k p d) :
    ∃ a vn ve nn, v = .ref a ∧ (a, ({ cls := .type "tuple", data := .seq [vn, ve].toArray nn } : Obj)) ∈ led ∧ DatIn led ve (cnE d) ∧ ((vn = .none ∧ cnName d = none) ∨ ∃ x t, vn = .str x t ∧ x ∈ names ∧ cnName d = some x) := by
  obtain ⟨nm, e, rfl, hn, _⟩ := hc
  cases h with
  | tuple hm r =>
    cases r with
    | cons h1 r =>
      cases r with
      | cons h2 r =>
        cases r
        refine ⟨_, _, _, _, rfl, hm, h2, ?_⟩
        rcases hn with rfl | ⟨x, rfl, hx⟩
        · cases h1; exact .inl ⟨rfl, rfl⟩
        · cases h1; exact .inr ⟨x, _, rfl, hx, rfl⟩
end Mine
namespace Mine
open PySem PySem.W PyProof.Rows PySem.Calls
section
variable {ps : List Str} {i : Nat} {d : Dat} {r : List Dat} {left : List (Str × Dat)} {x : Str}
theorem runC_none (h : pick ps i d = none) : runC ps i (d :: r) left = .error "too_many_ports" := by
  rw [runC, h]
theorem runC_unk (h : pick ps i d = some x) (hx : x ∉ ps) : runC ps i (d :: r) left = .error "unknown_port" := by
  rw [runC, h]; simp only [if_neg hx]
theorem runC_twice (h : pick ps i d = some x) (hx : x ∈ ps) (hl : x ∈ left.map (·.1)) : runC ps i (d :: r) left = .error "port_connected_twice" := by
  rw [runC, h]; simp only [if_pos hx, if_pos hl]
theorem runC_go (h : pick ps i d = some x) (hx : x ∈ ps) (hl : x ∉ left.map (·.1)) : runC ps i (d :: r) left = runC ps (i + 1) r (left ++ [(x, cnE d)]) := by
  rw [runC, h]; simp only [if_pos hx, if_neg hl]
theorem pick_none (h : cnName d = none) : pick ps i d = ps[i]? := by unfold pick; rw [h]
theorem pick_some (h : cnName d = some x) : pick ps i d = some x := by unfold pick; rw [h]
theorem resD_err (k : Str) : resD ps (.error k) = .tuple [.str k, .int 12] := rfl
end
theorem nm_ok : ∀ p ∈ NM, PyData.strOk p = true := by decide +kernel
end Mine

namespace Mine
open PySem PySem.W PyProof.Rows PySem.Calls
theorem fin1 {h₀ h : Heap} {L : Addr} {p1 p2 p3 : Addr × Obj} {news tl : List (Addr × Obj)} (N : News h₀ L h (p1 :: p2 :: p3 :: (news ++ tl))) : News h₀ L h ([p1] ++ news) := fun p hp => N p (by
  simp only [List.mem_cons, List.mem_append, List.cons_append, List.nil_append] at hp ⊢
  rcases hp with h | h <;> simp [h])
theorem off_size {h₀ h : Heap} {L : Addr} {p2 p3 : Addr × Obj} {news tl : List (Addr × Obj)} {o : Obj} (N : News h₀ L h (p2 :: p3 :: (news ++ tl))) : ∀ p ∈ [(h.objs.size, o)], ∀ q ∈ news, p.1 ≠ q.1 := fun p hp q hq => by
  rw [List.mem_singleton.mp hp]
  exact Nat.ne_of_gt (Heap.lt_size (N q (.tail _ (.tail _ (List.mem_append.mpr (.inl hq))))).1)
theorem err_in {led : List (Addr × Obj)} {a : Addr} {k : Str} {t u : Tok} {n : Nat} {ps : List Str} {r : Except Str (List (Str × Dat))} (hr : r = .error k) (hm : (a, ({ cls := .type "tuple", data := .seq [.str k t, .int 12 u].toArray n } : Obj)) ∈ led) : DatIn led (.ref a) (resD ps r) := by
  subst hr
  exact .tuple hm (.cons (.str _ _) (.cons (.int _ _) .nil))
end Mine
/-! LM -/
namespace Mine
open PySem PySem.W PyProof.Rows PySem.Calls
abbrev tupOf (us : List Value) (n : Nat) : Obj := { cls := .type "tuple", data := .seq us.toArray n }
section
variable {prog : Program} {w : World} {A : Around} {E : Value → Shared → Prop} {s : Shared} {h₀ : Heap} {L l : Addr} {m : Str → Option Value}
theorem tup_at {value slice : PySem.Expr} {news : List (Addr × Obj)} {us : List Value} {n : Nat} {k : Int} {u : Tok} {x : Value} {Q : Value → Shared → Prop} (N : News h₀ L s.heap news) (hm : (l, tupOf us n) ∈ news)
    (h0 : 0 ≤ k) (hx : us[k.toNat]? = some x) (hf : k ≤ 1000) (h : Q x s)
    (hs : subscripted slice false (.ref l) (.int k u) = operate [.ref l, .int k u] (getItem (.ref l) (.int k u)) := by with_unfolding_all rfl) :
    wpAny (model prog w) A (subscriptTail value slice (.ref l) (.int k u)) Q E s := by
  have hk : k.toNat < us.length := (List.getElem?_eq_some_iff.mp hx).1
  exact item_tupleT (News.isTup N hm) (by omega) (by omega) (by unfold seqIndex?; rw [if_neg (show ¬ k < 0 by omega)]; simp only [Bool.and_eq_true, decide_eq_true_eq]; rw [if_pos (by omega)]) hx h hs
theorem lst_at {value slice : PySem.Expr} {news : List (Addr × Obj)} {us : List Value} {n : Nat} {k : Int} {u : Tok} {x : Value} {Q : Value → Shared → Prop} (N : News h₀ L s.heap news) (hm : (l, listOf us.toArray n) ∈ news)
    (h0 : 0 ≤ k) (hx : us[k.toNat]? = some x) (hf : k ≤ 1000) (h : Q x s)
    (hs : subscripted slice false (.ref l) (.int k u) = operate [.ref l, .int k u] (getItem (.ref l) (.int k u)) := by with_unfolding_all rfl) :
    wpAny (model prog w) A (subscriptTail value slice (.ref l) (.int k u)) Q E s := by
  have hl : s.heap.IsList l us.toArray := ⟨_, (N _ hm).1, rfl, n, rfl⟩
  exact tail_any hl.typeIs slot_list_getitem.lookup (wpAny_getItem_list hl h0 (by omega) (by simpa using hx) h) hs
theorem tup_len {news L9 : List (Addr × Obj)} {us : List Value} {ds : List Dat} {n : Nat} {Q : Value → Shared → Prop} (N : News h₀ L s.heap news) (hm : (l, tupOf us n) ∈ news) (hd : DatAll L9 us ds) (hf : ds.length ≤ 1000)
    (h : Q (.int ds.length (s.toks + 1)) { s with toks := s.toks + 1 + 1 }) : wpAny (model prog w) A (call (.builtin "len") [.ref l]) Q E s := by
  have e := hd.length
  exact len_tuple (News.isTup N hm) (by simp; omega) (by simp only [List.size_toArray, e]; exact h)
theorem tup_lenS {news : List (Addr × Obj)} {us : List Value} {ps : List Str} {n : Nat} {Q : Value → Shared → Prop} (N : News h₀ L s.heap news) (hm : (l, tupOf us n) ∈ news) (hd : StrsD us ps) (hf : ps.length ≤ 1000)
    (h : Q (.int ps.length (s.toks + 1)) { s with toks := s.toks + 1 + 1 }) : wpAny (model prog w) A (call (.builtin "len") [.ref l]) Q E s := by
  have e := hd.length
  exact len_tuple (News.isTup N hm) (by simp; omega) (by simp only [List.size_toArray, e]; exact h)
theorem lst_lenS {news : List (Addr × Obj)} {us : List Value} {ps : List Str} {n : Nat} {Q : Value → Shared → Prop} (N : News h₀ L s.heap news) (hm : (l, listOf us.toArray n) ∈ news) (hd : StrsD us ps) (hf : ps.length ≤ 1000)
    (h : Q (.int ps.length (s.toks + 1)) { s with toks := s.toks + 1 + 1 }) : wpAny (model prog w) A (call (.builtin "len") [.ref l]) Q E s := by
  have e := hd.length
  have hl : s.heap.IsList l us.toArray := ⟨_, (N _ hm).1, rfl, n, rfl⟩
  exact len_list hl (by simp; omega) (by simp only [List.size_toArray, e]; exact h)
theorem strs_ok {ps : List Str} (hok : ∀ p ∈ ps, PyData.strOk p = true) : ∀ d ∈ ps.map Dat.str, kqdOk 8 d = true := by
  intro d hd
  obtain ⟨x, hx, rfl⟩ := List.mem_map.mp hd
  exact hok x hx
theorem mem_str {x : Str} {ps : List Str} : Dat.str x ∈ ps.map Dat.str ↔ x ∈ ps := by
  constructor
  · intro h
    obtain ⟨y, hy, e⟩ := List.mem_map.mp h
    cases e; exact hy
  · exact fun h => List.mem_map.mpr ⟨x, h, rfl⟩
open Classical in
theorem notIn_yes {news : List (Addr × Obj)} {us : List Value} {ps : List Str} {n : Nat} {x : Str} {t : Tok} {Q : Value → Shared → Prop} (N : News h₀ L s.heap news) (hm : (l, listOf us.toArray n) ∈ news) (hd : StrsD us ps) (hok : ∀ p ∈ ps, PyData.strOk p = true) (hx : x ∈ ps) (hu : A.units + 64 < cLine)
    (h : Q (.bool false) s) : wpAny (model prog w) A (compareOp .NotIn (.str x t) (.ref l)) Q E s :=
  kqd_notIn (n₁ := []) (n₂ := []) N hm rfl rfl (hd.all _) (fun _ h => nomatch h) (.str x t) (fun _ h => nomatch h) (strs_ok hok) (hok x hx) hu (by rw [decide_eq_true (mem_str.mpr hx)]; exact h)
open Classical in
theorem notIn_no {news : List (Addr × Obj)} {us : List Value} {ps : List Str} {n : Nat} {x : Str} {t : Tok} {Q : Value → Shared → Prop} (N : News h₀ L s.heap news) (hm : (l, listOf us.toArray n) ∈ news) (hd : StrsD us ps) (hok : ∀ p ∈ ps, PyData.strOk p = true) (hxo : PyData.strOk x = true) (hx : x ∉ ps) (hu : A.units + 64 < cLine)
    (h : Q (.bool true) s) : wpAny (model prog w) A (compareOp .NotIn (.str x t) (.ref l)) Q E s :=
  kqd_notIn (n₁ := []) (n₂ := []) N hm rfl rfl (hd.all _) (fun _ h => nomatch h) (.str x t) (fun _ h => nomatch h) (strs_ok hok) hxo hu (by rw [decide_eq_false (fun q => hx (mem_str.mp q))]; exact h)
theorem dict_in {news led : List (Addr × Obj)} {o : Obj} {kvs : List (Str × Value)} {left : List (Str × Dat)} {x : Str} {t : Tok} {b : Bool} {Q : Value → Shared → Prop} (N : News h₀ L s.heap news) (hm : (l, o) ∈ news) (hd : o.IsDictOf (PySem.strKind prog w) kvs) (hP : PairsD led kvs left) (lo : (l == sysModules) = false)
    (hx : decide (x ∈ left.map (·.1)) = b) (h : Q (.bool b) { s with toks := s.toks + 1 }) : wpAny (model prog w) A (compareOp .In (.str x t) (.ref l)) Q E s :=
  kda_in N hm hd lo (strKind_is prog w x t) b (by rw [hP.at_none, hx]) h
theorem dict_notIn {news led : List (Addr × Obj)} {o : Obj} {kvs : List (Str × Value)} {left : List (Str × Dat)} {x : Str} {t : Tok} {b : Bool} {Q : Value → Shared → Prop} (N : News h₀ L s.heap news) (hm : (l, o) ∈ news) (hd : o.IsDictOf (PySem.strKind prog w) kvs) (hP : PairsD led kvs left) (lo : (l == sysModules) = false)
    (hx : decide (x ∈ left.map (·.1)) = b) (h : Q (.bool (!b)) { s with toks := s.toks + 1 }) : wpAny (model prog w) A (compareOp .NotIn (.str x t) (.ref l)) Q E s :=
  kdg_notin N hm hd lo (strKind_is prog w x t) b (by rw [hP.at_none, hx]) h
theorem dict_set {news : List (Addr × Obj)} {g : Obj → List (Addr × Obj)} {o : Obj} {kvs : List (Str × Value)} {x : Str} {t : Tok} {v : Value} {Q : Unit → Shared → Prop} (F : Fr h₀ L s.heap m) (N : News h₀ L s.heap news) (U : UpdF l o news g) (hd : o.IsDictOf (PySem.strKind prog w) kvs) (hsz : kvs.length ≤ 1000)
    (h : ∀ h' o', Fr h₀ L h' m → News h₀ L h' (g o') → o'.IsDictOf (PySem.strKind prog w) (stored kvs x v) → Q () { s with heap := h', toks := s.toks + 1 }) : wpAny (model prog w) A (setItem (.ref l) (.str x t) v) Q E s :=
  kda_set F N U hd (strKind_is prog w x t) (by rw [sizeLine_eq]; omega) h
end
end Mine

namespace Mine
open PySem PySem.W PyProof.Rows PySem.Calls
theorem comp_fin {h₀ : Heap} {L I C D ax : Addr} {m : Str → Option Value} {s₁ : Shared} {oI oC oD o : Obj} {its : Array Value} {rest : Value → List (Addr × Obj) → Prop} {h2 h' : Heap} {tk : Nat} {nws : List (Addr × Obj)}
    (F : Fr h₀ L h' m) (N : News h₀ L h' ((h2.objs.size, o) :: (I, oI) :: (C, oC) :: (D, oD) :: nws)) (N2 : News h₀ L h2 ((I, oI) :: (C, oC) :: (D, oD) :: nws)) (off : LCg.Off3 I C D nws) (hS : LCg.SrcAt h₀ ax its nws)
    (r : rest (.ref h2.objs.size) ((h2.objs.size, o) :: nws)) : LCg.CompEnd h₀ L m s₁ I oI C oC D oD (LCg.SrcAt h₀ ax its) rest (.ref h2.objs.size) { s₁ with heap := h', toks := tk } := by
  have lt : ∀ p ∈ (I, oI) :: (C, oC) :: (D, oD) :: nws, p.1 < h2.objs.size := fun p hp => Heap.lt_size (N2 p hp).1
  refine LCg.CompEnd.intro F N ((h2.objs.size, o) :: nws) (fun p hp => ?_) ⟨⟨Nat.ne_of_gt (lt _ (.head _)), Nat.ne_of_gt (lt _ (.tail _ (.head _))), Nat.ne_of_gt (lt _ (.tail _ (.tail _ (.head _))))⟩, off⟩ ?_ r
  · simp only [List.mem_cons] at hp ⊢
    rcases hp with h | h | h | h | h <;> simp [h]
  · rcases hS with h | ⟨o, hm, q⟩
    · exact .inl h
    · exact .inr ⟨o, .tail _ hm, q⟩
theorem off_new {h₀ h2 : Heap} {L : Addr} {nws news : List (Addr × Obj)} {x y z : Addr × Obj} (N2 : News h₀ L h2 (x :: y :: z :: nws)) (hb : ∀ p ∈ news, p ∈ nws) : ∀ q ∈ news, h2.objs.size ≠ q.1 :=
  fun q hq => Nat.ne_of_gt (Heap.lt_size (N2 q (.tail _ (.tail _ (.tail _ (hb q hq))))).1)
open Classical in
theorem split_off {nws news : List (Addr × Obj)} (hfr : ∀ p ∈ nws, p ∈ news ∨ ∀ q ∈ news, p.1 ≠ q.1) : ∃ tl, (∀ p ∈ nws, p ∈ tl ++ news) ∧ ∀ p ∈ tl, p ∈ nws ∧ ∀ q ∈ news, p.1 ≠ q.1 :=
  ⟨nws.filter fun p => decide (∀ q ∈ news, p.1 ≠ q.1), fun p hp => by
    rcases hfr p hp with h | h
    · exact List.mem_append.mpr (.inr h)
    · exact List.mem_append.mpr (.inl (List.mem_filter.mpr ⟨hp, decide_eq_true h⟩)), fun p hp => by
    obtain ⟨h1, h2⟩ := List.mem_filter.mp hp
    exact ⟨h1, of_decide_eq_true h2⟩⟩
theorem comp_ind {prog : Program} {w : World} {A : Around} {h₀ : Heap} {L : Addr} {m : Str → Option Value} {env : Env} {elt : PySem.Expr} {x : Str} {scope : Scope} {cl : List (Str × Addr)} {s : Shared} {S : List (Addr × Obj) → Prop} {P : Nat → Value → Prop} {Fin : List Value → List (Addr × Obj) → Prop} {n : Nat}
    (Inv : Nat → List Value → List (Addr × Obj) → Prop)
    (turn : ∀ i ys news v I oI C oC D m₂ h tk (E' : Value → Shared → Prop), i < n → Inv i ys news → P i v → LCg.NsObj oC m₂ → m₂ x = some v → Fr h₀ L h m → News h₀ L h ((I, oI) :: (C, oC) :: (D, LCg.lst ys) :: news) → LCg.Off3 I C D news → ((@Ne Nat I C) ∧ (@Ne Nat I D) ∧ (@Ne Nat C D)) →
      wpAny (model prog w) A (eval elt (compEnvC scope cl C env)) (LCg.CompEnd h₀ L m { s with heap := h, toks := tk } I oI C oC D (LCg.lst ys) S (fun y news' => Inv (i + 1) (ys ++ [y]) news')) E' { s with heap := h, toks := tk })
    (fin : ∀ ys news, Inv n ys news → Fin ys news) : ∀ k i ys news, i + k = n → Inv i ys news → LCg.CompRest prog w A h₀ L m env elt x scope cl s S P Fin k i ys news := by
  intro k
  induction k with
  | zero => intro i ys news hi hI; rw [Nat.add_zero] at hi; subst hi; exact fin ys news hI
  | succ k ih =>
    intro i ys news hi hI
    refine LCg.CompRest.succ fun v I oI C oC D m₂ h tk E' hv hC hx F N off ne => ?_
    refine wpAny_mono (turn i ys news v I oI C oC D m₂ h tk E' (by omega) hI hv hC hx F N off ne) (fun y s₂ q => ?_) fun _ _ e => e
    obtain ⟨h', tk', news', e, F', N', o', hS, hr⟩ := q
    exact ⟨h', tk', news', e, F', N', o', hS, ih _ _ _ (by omega) hr⟩
end Mine

namespace Mine
open PySem PySem.W PyProof.Rows PySem.Calls
theorem dict_item {prog : Program} {w : World} {A : Around} {E : Value → Shared → Prop} {s : Shared} {h₀ : Heap} {L l : Addr} {value slice : PySem.Expr} {news : List (Addr × Obj)} {o : Obj} {kvs : List (Str × Value)} {x : Str} {t : Tok} {v : Value} {Q : Value → Shared → Prop} (N : News h₀ L s.heap news) (hm : (l, o) ∈ news) (hd : o.IsDictOf (PySem.strKind prog w) kvs) (hl : valueAt kvs x = some v) (h : Q v { s with toks := s.toks + 1 })
    (hs : subscripted slice false (.ref l) (.str x t) = operate [.ref l, .str x t] (getItem (.ref l) (.str x t))) (hg : ∀ r, letTemporaryGo value (.ref l) r = pure ()) :
    wpAny (model prog w) A (subscriptTail value slice (.ref l) (.str x t)) Q E s := kda_item N hm hd (strKind_is prog w x t) hl h hs hg
end Mine

namespace Mine
open PySem PySem.W PyProof.Rows PySem.Calls
theorem off1_ne {D : Addr} {l : List (Addr × Obj)} (h : LCg.Off1 D l) : ∀ p ∈ l, p.1 ≠ D := by
  induction l with
  | nil => intro p hp; nomatch hp
  | cons q r ih =>
    intro p hp
    rcases List.mem_cons.mp hp with rfl | hp
    · exact h.1
    · exact ih h.2 p hp
end Mine
namespace Mine
open PySem PySem.W PyProof.Rows PySem.Calls
theorem due_fin {h₀ h : Heap} {L : Addr} {p1 : Addr × Obj} {nws news tl' : List (Addr × Obj)} (N : News h₀ L h (p1 :: nws)) (ht2 : ∀ p ∈ tl', p ∈ nws ∧ ∀ q ∈ news, p.1 ≠ q.1) (hnn : ∀ q ∈ news, q ∈ nws) : News h₀ L h ((p1 :: tl') ++ news) := fun p hp => N p (by
  rcases List.mem_cons.mp hp with rfl | hp
  · exact .head _
  · exact .tail _ ((List.mem_append.mp hp).elim (fun h => (ht2 p h).1) (hnn p)))
theorem due_off {D : Addr} {o : Obj} {nws news tl' : List (Addr × Obj)} (hO1 : LCg.Off1 D nws) (ht2 : ∀ p ∈ tl', p ∈ nws ∧ ∀ q ∈ news, p.1 ≠ q.1) (hnn : ∀ q ∈ news, q ∈ nws) : ∀ p ∈ (D, o) :: tl', ∀ q ∈ news, p.1 ≠ q.1 := fun p hp => by
  rcases List.mem_cons.mp hp with rfl | hp
  · exact fun q hq e => off1_ne hO1 q (hnn q hq) e.symm
  · exact (ht2 p hp).2
end Mine
/-! EX1 -/
namespace Mine
open PySem PySem.W PyProof.Rows PySem.Calls
/-- an object of an own exception class as it is new -/
abbrev excObj (C t : Addr) (d : Option Addr) : Obj := { cls := .ref C, dict := d, data := .fields #[.ref t, .none, .none, .none, .bool false, .none] }
section
variable {prog : Program} {w : World} {A : Around} {R : Result → Shared → Prop} {E : Value → Shared → Prop} {h : Heap} {g : Array GenState} {d : Drawn} {t : Nat} {os : OsState}
variable {nm q : Str} {C N : Addr} {bs bm bmB : List Value} {hdct : Bool} {sn : List Str} {sub : List Value} {ab : Bool} {col : Option Bool} {dd : Option Addr} {k0 k1 k2 k3 k5 : Option Value} {B newId initId : String}
structure Under (B : String) (bm : List Value) : Prop where
  here : bm.contains (.type B) = true
  base : bm.contains (.type "BaseException") = true
  noA : bm.contains (.type "AttributeError") = false
  noN : bm.contains (.type "NameError") = false

theorem exc_check_new (F : ExcBaseFacts B newId initId bmB) (U : Under B bm) {rest : List Value} {M : Model} {Q : Unit → Shared → Prop} (hC : h.get? C = some (excClassObj nm q C N bs bm hdct sn sub ab col dd k0 k1 k2 k3 k5 newId))
    (hq : Q () ⟨h, g, d, t, os⟩) : wpAny M A (checkBuiltinCall newId ⟨.ref C :: rest, []⟩) Q E ⟨h, g, d, t, os⟩ := by
  have c1 : (Value.ref C :: bm).contains (.type B) = true := by rw [List.contains_cons, U.here, Bool.or_true]
  have c2 := F.noStar
  simp only [checkBuiltinCall, F.newKind, F.newSplit, F.newRow]
  repeat (first | refine wpAny_loadPart_at hC ?_ | (refine wpAny_isSubtype_exc hC ?_; rw [c1]) | refine wpAny_staticBase_exc hC ?_ | refine wpAny_madeBy_exc hC ?_ | simp only [bne_self_eq_false, Bool.false_eq_true, if_false] | wp_step)
  exact hq

theorem exc_new (F : ExcBaseFacts B newId initId bmB) (U : Under B bm) {rest : List Value} (hC : h.get? C = some (excClassObj nm q C N bs bm hdct sn sub ab col dd k0 k1 k2 k3 k5 newId))
    (hq : R (.ok (.ret (.ref (h.objs.size + 1)))) ⟨(h.push { cls := .type "tuple", data := .seq rest.toArray }).push (excObj C h.objs.size none), g, d, t, os⟩) (hz : rest.length ≤ sizeLine) :
    codeAny (model prog w) A (.builtin newId ⟨.ref C :: rest, []⟩) R ⟨h, g, d, t, os⟩ := by
  have e1 := F.ends
  have c1 : (Value.ref C :: bm).contains (.type B) = true := by rw [List.contains_cons, U.here, Bool.or_true]
  have c2 : (Value.ref C :: bm).contains (.type "AttributeError") = false := by rw [List.contains_cons, U.noA]; rfl
  have c3 : (Value.ref C :: bm).contains (.type "NameError") = false := by rw [List.contains_cons, U.noN]; rfl
  refine codeAny_builtinAt F.entry ?_
  unfold Builtin.«BaseException.__new__»
  refine PySem.wpAt_bind ?_
  show PySem.wpAt _ _ _ (stack >>= _) _ _ _
  refine PySem.wpAt_bind (PySem.wpAt_stack fun p below => PySem.wpAt_of_wpAny ?_)
  wp_walk
  refine PySem.wpAt_of_wpAny ?_
  rw [F.owner]
  repeat (first | with_reducible refine wpAny_madeHere_exc F.canon hC ?_ | with_reducible refine wpAny_loadPart_at hC ?_ | (with_reducible refine wpAny_isSubtype_exc hC ?_; first | rw [c1] | rw [c2] | rw [c3]) | wp_step)
  show R _ _
  rw [Heap.size_push]
  exact hq

/-- a call of an own exception class whose __init__ is a def, its own or its base's -/
theorem exc_make (F : ExcBaseFacts B newId initId bmB) (U : Under B bm) {rest : List Value} {fI : Addr} {oI : Obj}
    (hC : h.get? C = some (excClassObj nm q C N bs bm hdct sn sub ab col dd k0 k1 k2 k3 k5 newId)) (hi : Looks (model prog w) h (typeLookup (.ref C) "__init__") (some (.ref fI)))
    (hf : h.get? fI = some oI) (hfc : oI.cls = .type "function") (hz : rest.length ≤ sizeLine)
    (hq : codeAny (model prog w) (A.under (.builtin "type.__call__" ⟨.ref C :: rest, []⟩)) (.call (.ref fI) ⟨.ref (h.objs.size + 1) :: rest, []⟩) (InitBack (h.objs.size + 1) R)
      ⟨(h.push { cls := .type "tuple", data := .seq rest.toArray }).push (excObj C h.objs.size none), g, d, t, os⟩) :
    codeAny (model prog w) A (.call (.ref C) ⟨rest, []⟩) R ⟨h, g, d, t, os⟩ := by
  have f1 := tc_lookup
  have f2 := tc_bind (.ref C)
  have hT : (⟨h, g, d, t, os⟩ : Shared).TypeIs (.ref C) "type" := ⟨_, hC, rfl⟩
  have k : ∀ b o, h.get? b = some o → ((h.push { cls := .type "tuple", data := .seq rest.toArray }).push (excObj C h.objs.size none)).get? b = some o := fun b o e => Heap.get?_push_of_some _ (Heap.get?_push_of_some _ e)
  have hC₁ := k _ _ hC
  have hfI₁ := k _ _ hf
  have i1 := hi.keeps k
  have hx : ((h.push { cls := .type "tuple", data := .seq rest.toArray }).push (excObj C h.objs.size none)).get? (h.objs.size + 1) = some (excObj C h.objs.size none) := by heap_get
  have hcC : (Value.ref C :: bm).contains (.ref C) = true := by simp
  refine codeAny_of_tree ?_
  show wpAny _ _ (callAny (.ref C) _) _ _ _
  repeat (any_goals (first | assumption | with_reducible refine wpAny_loadPart_at hC ?_ | wp_step))
  refine ⟨rfl, ?_⟩
  refine codeAny_call_builtin_at (Code.quiet_builtin _ (by decide +kernel)) entry_typeCall (wpAny_check_type_call_sub hC ?_)
  repeat (first | with_reducible refine wpAny_loadPart_at hC ?_ | with_reducible refine wpAny_madeBy_exc hC ?_ | wp_step)
  refine codeAny_call_builtin_code (Code.quiet_builtin _ F.quiet) (exc_check_new F U hC ?_)
  refine exc_new (rest := rest) F U hC ?_ hz
  show wpAny _ _ _ _ _ _
  have t1 : Looks (model prog w) ((h.push { cls := .type "tuple", data := .seq rest.toArray }).push (excObj C h.objs.size none)) (typeOf (.ref (h.objs.size + 1))) (.ref C) := (Looks.ld hx).andThen .now
  unfold isInstance
  refine wpAny_bind (wpAny_bind (t1.here (wpAny_isSubtype_exc hC₁ ?_)))
  rw [hcC]
  unfold callSpecial? specialOf
  refine wpAny_bind (wpAny_holding (wpAny_bind (wpAny_bind (t1.here ?_))))
  show wpAny _ _ (typeLookup (.ref C) _) _ _ _
  refine i1.here ?_
  refine wpAny_holding (wpAny_bind ?_)
  unfold bindSpecial
  refine wpAny_bind (wpAny_typeOf (T := "function") ⟨_, hfI₁, hfc⟩ ?_)
  rw [if_pos (by decide)]
  refine wpAny_pure (wpAny_bind (wpAny_call (codeAny_mono hq fun r s' z => ?_)))
  rcases r with e | (v | _ | _ | _) <;> first | exact z | exact z.elim | skip
  obtain ⟨rfl, z⟩ := z
  wp_walk
  exact z
end
end Mine
/-! EX2 -/
namespace Mine
open PySem PySem.W PyProof.Rows PySem.Calls
open PySem.Builtin PySem.Builtin.ObjectAttr
/-- the line of Exception -/
abbrev excEnd : List Value := [.type "Exception", .type "BaseException", .type "object"]
/-- own classes, then Exception's line -/
def ownLine : List Value → Bool
  | [.type a, .type b, .type c] => a == "Exception" && b == "BaseException" && c == "object"
  | .ref _ :: r => ownLine r
  | _ => false
theorem ownLine_eq : ∀ {l : List Value}, ownLine l = true → ∃ r : List Addr, l = r.map Value.ref ++ excEnd
  | [.type a, .type b, .type c], e => by
    simp only [ownLine, Bool.and_eq_true, beq_iff_eq] at e
    obtain ⟨⟨rfl, rfl⟩, rfl⟩ := e
    exact ⟨[], rfl⟩
  | .ref a :: r, e => by
    have e' : ownLine r = true := by
      cases r with
      | nil => cases e
      | cons y r => cases r <;> exact e
    obtain ⟨l, hl⟩ := ownLine_eq e'
    exact ⟨a :: l, by rw [hl]; rfl⟩
theorem ownLine_refuse (self : Value) (r : List Addr) : refuseLoop self "__setattr__" (r.map Value.ref ++ excEnd) = pure () := by
  induction r with
  | nil => exact PySem.F.store_Exception.passes self
  | cons a r ih => rw [List.map_cons, List.cons_append, refuseLoop_ref]; exact ih
theorem ownLine_has {T : Value} (hT : excEnd.contains T = true) (r : List Addr) : (r.map Value.ref ++ excEnd).contains T = true := by
  induction r with
  | nil => exact hT
  | cons a r ih => rw [List.map_cons, List.cons_append, List.contains_cons, ih, Bool.or_true]
def excLineIn (K : Frag) (C : Addr) : Bool := (clsIn K C).any fun cd => ownLine cd.mro && cd.hasDict
theorem excLine_of {K : Frag} {C : Addr} (e : excLineIn K C = true) : ∃ cd r, clsIn K C = some cd ∧ cd.mro = List.map Value.ref r ++ excEnd ∧ cd.hasDict = true := by
  obtain ⟨cd, hc, h⟩ := any_some e
  obtain ⟨h1, h2⟩ := Bool.and_eq_true_iff.mp h
  obtain ⟨r, hr⟩ := ownLine_eq h1
  exact ⟨cd, r, hc, hr, h2⟩
theorem line_ne (r : List Addr) : (List.map Value.ref r ++ excEnd).isEmpty = false := by cases r <;> rfl

section
variable {prog : Program} {w : World} {A : Around} {E : Value → Shared → Prop} {R : Result → Shared → Prop} {s : Shared} {K : Frag} {x C L : Addr} {h₀ : Heap} {m : Str → Option Value} {ox : Obj} {od : Option Obj} {name : Str} {v : Value}
theorem exc_sa {tk : Tok} {cd : ClassData} {r : List Addr} (X : K.In s.heap) (I : PySem.W.InstAt s.heap x ox C od) (hc : clsIn K C = some cd) (hr : cd.mro = List.map Value.ref r ++ excEnd) (ht : takerIn K C name = some none)
    (h : ∀ b, wpAny (model prog w) A.in1 (storeInOwnDict (.ref x) (.ref C) (.str name tk) name v b)
      (fun fin s' => match fin with | .done f => R (.ok f) s' | .again c' => c'.quiet = true ∧ codeAny (model prog w) A c' R s') (fun e s' => R (.error e) s') s) :
    codeAny (model prog w) A (.call (.builtin "object.__setattr__") ⟨[.ref x, .str name tk, v], []⟩) R s := by
  have SF := PySem.F.store_Exception
  have ne : cd.mro.isEmpty = false := by rw [hr]; exact line_ne r
  have ob : cd.mro.contains (.type "object") = true := by rw [hr]; exact ownLine_has (by decide) r
  have sub : Looks (model prog w) s.heap (isInstance (.ref x) (.type "object")) true := I.type.andThen (looks_mroIn X (by unfold mroIn; rw [hc, Option.bind_some, if_neg (by rw [ne]; decide), ob]))
  refine codeAny_call_builtin SF.slot.plain SF.entry (@check_slot (model prog w) _ _ s "object.__setattr__" "object" "__setattr__" (.ref x) [.str name tk, v] [] _ SF.kind SF.split sub (SF.args (.ref x) (.str name tk) v) ?_)
  obtain ⟨attr, ha, hb⟩ := Option.bind_eq_some_iff.mp ht
  have hm : Looks (model prog w) s.heap (mroOf (.ref C)) cd.mro := (looks_clsIn X hc).andThen .now
  have L3 : Looks (model prog w) s.heap (storeTaker? attr) none := by
    cases attr with
    | none => exact .now
    | some a =>
      obtain ⟨b, hb', e⟩ := Option.map_eq_some_iff.mp hb
      refine (looks_takesIn X hb').andThen ?_
      cases b
      · exact .now
      · cases e
  rw [osa_eq, refuse_eq]
  refine wpAny_bind (wpAny_bind (I.type.here (wpAny_bind (hm.here ?_))))
  rw [hr, ownLine_refuse]
  exact wpAny_pure (wpAny_bind (I.type.here (wpAny_bind ((looks_findIn X ha).here (wpAny_bind (L3.here (h _)))))))

/-- the first field of an own exception's object: its dict is made -/
theorem exc_set0 {Q : Unit → Shared → Prop} {rest : List (Addr × Obj)} {t : Addr} (F : Fr h₀ L s.heap m) (X₀ : K.In h₀) (N : News h₀ L s.heap ((x, excObj C t none) :: rest)) (O : OwnOff rest [x])
    (hK : excLineIn K C = true) (hs : findIn K (.ref C) "__setattr__" = some (some (.builtin "object.__setattr__"))) (ht : takerIn K C name = some none)
    (h : ∀ h' tk d, Fr h₀ L h' m → News h₀ L h' ((d, dictOf [⟨PyData.keyHash w.params name, .str name tk, v⟩] 1) :: (x, excObj C t (some d)) :: rest) → (∀ p ∈ (x, excObj C t (some d)) :: rest, p.1 ≠ d) → Q () { s with heap := h', toks := s.toks + 2 }) :
    wpAny (model prog w) A (setAttr (.ref x) name v) Q E s := by
  obtain ⟨cd, r, hc, hr, hd'⟩ := excLine_of hK
  have X := X₀.keeps F.keep
  have I : PySem.W.InstAt s.heap x (excObj C t none) C none := ⟨(N _ (.head _)).1, rfl, rfl, trivial⟩
  refine set_plain X I hs (exc_sa (s := { s with toks := s.toks + 1 }) X I hc hr ht fun b => ?_)
  have hlt : ∀ p ∈ (x, excObj C t none) :: rest, p.1 ≠ s.heap.objs.size := fun p hp => Nat.ne_of_lt (Heap.lt_size (N p hp).1)
  have hx := (N _ (.head _)).1
  obtain ⟨hh, g, dr, tk, os⟩ := s
  dsimp only at *
  have F1 := F.push emptyDict
  have N1 := N.push F emptyDict
  obtain ⟨F2, N2⟩ := news_upd (f := fun o => { o with dict := some hh.objs.size }) (pre := [(hh.objs.size, emptyDict)]) (d := x) (o := excObj C t none) (o' := excObj C t (some hh.objs.size)) F1 N1
    (fun p hp => by rw [List.mem_singleton.mp hp]; exact (hlt _ (.head _)).symm) (fun p hp => O p hp x (by simp)) rfl rfl
  refine wpAny_bind (wpAny_pure (wpAny_bind (wpAny_bind (wpAny_loadPart hx (wpAny_bind ((looks_clsIn X hc).here ?_))))))
  rw [hd']
  have hx1 := (N1 _ (.tail _ (.head _))).1
  refine wpAny_bind (wpAny_alloc' (wpAny_bind (wpAny_update' hx1 ?_)))
  refine wpAny_pure (a := some hh.objs.size) (wpAny_bind (wpAny_pure (wpAny_bind ?_)))
  have D : ((hh.push emptyDict).update x fun o => { o with dict := some hh.objs.size }).get? hh.objs.size = some { cls := .type "dict", dict := none, data := .dict #[] 0, slots := #[] } := (N2 (hh.objs.size, emptyDict) (.head _)).1
  obtain ⟨F3, N3⟩ := news_upd (f := Obj.putName name (PyData.keyHash w.params name) (.str name (tk + 1)) v) (pre := []) (d := hh.objs.size) (o := emptyDict) (o' := dictOf [⟨PyData.keyHash w.params name, .str name (tk + 1), v⟩] 1) F2 N2
    (fun _ h => nomatch h) (fun p hp => by
      rcases List.mem_cons.mp hp with rfl | hp
      · exact hlt (x, excObj C t none) (.head _)
      · exact hlt _ (.tail _ hp)) (by rw [show emptyDict = dictOf [] 0 from rfl, putName_dict]; rfl) rfl
  have D' := (N3 (hh.objs.size, _) (.head _)).1
  unfold nsSet
  refine wpAny_bind (wpAny_bind (wpAny_askSetting (wpAny_pure (wpAny_bind (wpAny_mkText (wpAny_bind (wpAny_loadPart D ?_)))))))
  dsimp only
  rw [aRefKeyMayBeTheName_at, show (!(#[] : Array DictEntry).any (·.key.isStr name) && (#[] : Array DictEntry).any (·.refKey)) = false from by simp]
  refine wpAny_updatePart D ?_
  refine wpAny_bind (wpAny_lookBehind D' (pastItsLine_dict (by rw [sizeLine_eq]; simp)) ?_)
  refine wpAny_pure (h _ (tk + 1) hh.objs.size F3 N3 fun p hp => ?_)
  rcases List.mem_cons.mp hp with rfl | hp
  · exact hlt (x, excObj C t none) (.head _)
  · exact hlt _ (.tail _ hp)
end
end Mine
/-! EX3 -/
namespace Mine
open PySem PySem.W PyProof.Rows PySem.Calls
open PySem.Builtin PySem.Builtin.ObjectAttr
section
variable {prog : Program} {w : World} {A : Around} {E : Value → Shared → Prop} {R : Result → Shared → Prop} {s : Shared} {K : Frag} {x C L : Addr} {h₀ : Heap} {m : Str → Option Value} {ox : Obj} {od : Option Obj} {name : Str} {v : Value}
/-- a further field of an own exception's object -/
theorem exc_set1 {Q : Unit → Shared → Prop} {rest : List (Addr × Obj)} {t d : Addr} {es : List DictEntry} {n : Nat} (F : Fr h₀ L s.heap m) (X₀ : K.In h₀) (N : News h₀ L s.heap ((d, dictOf es n) :: (x, excObj C t (some d)) :: rest)) (hne : ∀ p ∈ (x, excObj C t (some d)) :: rest, p.1 ≠ d)
    (hK : excLineIn K C = true) (hs : findIn K (.ref C) "__setattr__" = some (some (.builtin "object.__setattr__"))) (ht : takerIn K C name = some none) (hr0 : es.any (·.refKey) = false) (hz : (putL name (PyData.keyHash w.params name) (.str name (s.toks + 1)) v es).length ≤ 1000)
    (h : ∀ h' tk, Fr h₀ L h' m → News h₀ L h' ((d, dictOf (putL name (PyData.keyHash w.params name) (.str name tk) v es) (putN name es n)) :: (x, excObj C t (some d)) :: rest) → Q () { s with heap := h', toks := s.toks + 2 }) :
    wpAny (model prog w) A (setAttr (.ref x) name v) Q E s := by
  obtain ⟨cd, r, hc, hr, hd'⟩ := excLine_of hK
  have X := X₀.keeps F.keep
  have hx := (N _ (.tail _ (.head _))).1
  have D := (N _ (.head _)).1
  have I : PySem.W.InstAt s.heap x (excObj C t (some d)) C (some (dictOf es n)) := ⟨hx, rfl, rfl, D⟩
  refine set_plain X I hs (exc_sa (s := { s with toks := s.toks + 1 }) X I hc hr ht fun b => ?_)
  obtain ⟨hh, g, dr, tk, os⟩ := s
  dsimp only at *
  obtain ⟨F3, N3⟩ := news_upd (f := Obj.putName name (PyData.keyHash w.params name) (.str name (tk + 1)) v) (pre := []) (d := d) (o := dictOf es n) (o' := dictOf (putL name (PyData.keyHash w.params name) (.str name (tk + 1)) v es) (putN name es n)) F N
    (fun _ h => nomatch h) hne (putName_dict ..) rfl
  have D' := (N3 (d, _) (.head _)).1
  refine wpAny_bind (wpAny_pure (wpAny_bind (wpAny_bind (wpAny_loadPart hx (wpAny_bind ((looks_clsIn X hc).here ?_))))))
  rw [hd']
  refine wpAny_pure (a := some d) (wpAny_bind (wpAny_pure (wpAny_bind ?_)))
  unfold nsSet
  refine wpAny_bind (wpAny_bind (wpAny_askSetting (wpAny_pure (wpAny_bind (wpAny_mkText (wpAny_bind (wpAny_loadPart D ?_)))))))
  dsimp only
  have c : (!es.toArray.any (·.key.isStr name) && es.toArray.any (·.refKey)) = false := by rw [← Array.any_toList, ← Array.any_toList]; show (!es.any _ && es.any _) = false; rw [hr0, Bool.and_false]
  rw [aRefKeyMayBeTheName_at, c]
  refine wpAny_updatePart D ?_
  refine wpAny_bind (wpAny_lookBehind D' (pastItsLine_dict (by rw [List.size_toArray, sizeLine_eq]; omega)) ?_)
  exact wpAny_pure (h _ (tk + 1) F3 N3)

/-- a field read from an own exception's object -/
theorem exc_get {Q : Value → Shared → Prop} {expr : Bool} (X : K.In s.heap) (I : PySem.W.InstAt s.heap x ox C od) (hK : excLineIn K C = true) (hg : findIn K (.ref C) "__getattribute__" = some (some (.builtin "BaseException.__getattribute__")))
    (hh : findIn K (.ref C) "__getattr__" = some none) (hf : findObj K C od name = some (.value v)) (hv : handedIn v = true) (h : Q v { s with toks := s.toks + 1 }) :
    wpAny (model prog w) A (getAttr (.ref x) name expr) Q E s := by
  obtain ⟨cd, r, hc, hr, -⟩ := excLine_of hK
  have G := PySem.F.attr_Exception.ga
  have L0 := I.type (M := model prog w)
  have L1 := looks_findIn (M := model prog w) X hg
  have L2 := looks_findIn (M := model prog w) X hh
  have L3 := looks_find (M := model prog w) X I hf
  have sub : Looks (model prog w) s.heap (isInstance (.ref x) (.type "BaseException")) true := I.type.andThen (looks_mroIn X (by unfold mroIn; rw [hc, Option.bind_some, if_neg (by rw [hr, line_ne]; decide), hr, ownLine_has (by decide)]))
  obtain ⟨hp, g, dr, tk, os⟩ := s
  dsimp only at L0 L1 L2 L3 sub
  unfold getAttr getAttrBy
  refine wpAny_bind (wpAny_mkText (wpAny_holding (wpAny_bind (L0.at (wpAny_bind (L1.at ?_))))))
  dsimp only
  rw [show (onTheHeap (.ref C) && Value.builtin "BaseException.__getattribute__" == Value.builtin "object.__getattribute__") = false from by rw [show (Value.builtin "BaseException.__getattribute__" == Value.builtin "object.__getattribute__") = false from by decide +kernel, Bool.and_false], if_neg (by decide)]
  unfold getAttrByItsOwn hookBefore
  refine wpAny_bind (L2.at (wpAny_bind (wpAny_attempt (wpAny_holding ?_))))
  unfold callGetattribute
  rw [show (expr && onTheHeap (Value.builtin "BaseException.__getattribute__")) = false from Bool.and_false _, if_neg (by decide)]
  unfold boundAndCalled
  rw [G.bind]
  refine wpAny_bind (wpAny_pure ?_)
  show wpAny _ _ (call (.builtin "BaseException.__getattribute__") [.ref x, .str name tk]) _ _ _
  refine wpAny_call (codeAny_call_builtin G.plain PySem.F.entry_bexc_ga ?_)
  refine @check_slot (model prog w) _ _ ⟨hp, g, dr, tk + 1, os⟩ "BaseException.__getattribute__" "BaseException" "__getattribute__" (.ref x) [.str name tk] [] _ (by decide +kernel) (by decide +kernel) sub (PySem.F.args_bexc_ga _ _) ?_
  unfold Builtin.«object.__getattribute__»
  refine wpAny_bind (wpAny_pure (wpAny_bind (wpAny_pure (wpAny_bind (L0.at (wpAny_bind (L3.at ?_)))))))
  refine wpAny_pure ?_
  show wpAny _ _ (handedOut v) _ _ _
  rw [handedOut_of hv]
  exact wpAny_pure h
end
end Mine
/-! EX4 -/
namespace Mine
open PySem PySem.W PyProof.Rows PySem.Calls
theorem cls45 {w : World} {h : Heap} (X : Frag.In (hd.heap_39 w.params) h) : ∃ nm q bs sn sub ab col dd k0 k1 k2 k3 k5,
    h.get? 45 = some (excClassObj nm q 45 44 bs (.ref 32 :: excEnd) true sn sub ab col dd k0 k1 k2 k3 k5 "Exception.__new__") :=
  ⟨_, _, _, _, _, _, _, _, _, _, _, _, _, X _ _ (by k_is)⟩
theorem init29 {w : World} {h : Heap} (X : Frag.In (hd.heap_39 w.params) h) : ∃ o, h.get? 29 = some o ∧ o.cls = .type "function" := ⟨_, X _ _ (by k_is), rfl⟩
theorem under45 : Under "Exception" (.ref 32 :: excEnd) := ⟨by decide, by decide, by decide, by decide⟩
theorem line45 (w : World) : excLineIn (hd.heap_39 w.params) 45 = true := by kernel_rfl
theorem kc1 (w : World) : findIn (hd.heap_39 w.params) (.ref 45) "__init__" = some (some (.ref 29)) := by k_is
theorem kc2 (w : World) : findIn (hd.heap_39 w.params) (.ref 45) "__setattr__" = some (some (.builtin "object.__setattr__")) := by k_is
theorem kc3 (w : World) : findIn (hd.heap_39 w.params) (.ref 45) "__getattribute__" = some (some (.builtin "BaseException.__getattribute__")) := by k_is
theorem kc4 (w : World) : findIn (hd.heap_39 w.params) (.ref 45) "__getattr__" = some none := by k_is
theorem kt1 (w : World) : takerIn (hd.heap_39 w.params) 45 "kind" = some none := by k_is
theorem kt2 (w : World) : takerIn (hd.heap_39 w.params) 45 "at" = some none := by k_is
theorem kt3 (w : World) : takerIn (hd.heap_39 w.params) 45 "detail" = some none := by k_is
end Mine
/-! EX5 -/
namespace Mine
open PySem PySem.W PyProof.Rows PySem.Calls
local macro_rules | `(tactic| walk_at "setAttr ref") => `(tactic| (k_here; k_dflt (first
  | (refine' exc_set0 ?F ?X ?N ?O ?hK ?hs ?ht ?_; (case F => k_asm); (case X => k_asm); (case N => k_asm); (case O => assumption); (case hK => exact line45 _); (case hs => exact kc2 _); (case ht => first | exact kt1 _ | exact kt2 _ | exact kt3 _); k_whole; intro h' tk' d' F' N' hne')
  | (refine' exc_set1 ?F ?X ?N ?hne ?hK ?hs ?ht ?hr ?hz ?_; (case F => k_asm); (case X => k_asm); (case N => k_asm); (case hne => assumption); (case hK => exact line45 _); (case hs => exact kc2 _); (case ht => first | exact kt1 _ | exact kt2 _ | exact kt3 _); (case hr => exact rfl); (case hz => exact Nat.le_of_ble_eq_true rfl); k_whole; intro h' tk' F' N'))))

theorem design_new2 {w : World} {mean : ExcName → Option Value} {mg mb : Str → Option Value} {A A₀ : Around} {base h₀ : Heap} {env : Env} {outer : List Env} {L : Addr} {m : Str → Option Value}
    {s : Shared} {news : List (Addr × Obj)} {k a : Value} {Q E : Value → Shared → Prop}
    (B : Below A₀ base outer h₀) (F : Fr h₀ L s.heap m) (X : Frag.In (hd.heap_39 w.params) h₀) (N : News h₀ L s.heap news)
    (T : Top hd.view_39 LO mean mg mb h₀) (hA : A.frames = some (env :: outer)) (hf : env.frame = some L) (hke : env.scope.kind = .function) (hroom : A.depth + 1 < recursionLimit)
    (ret : ∀ x t d es n h' tk, Fr h₀ L h' m → News h₀ L h' ((d, dictOf es n) :: (x, excObj 45 t (some d)) :: (t, { cls := .type "tuple", data := .seq [k, a].toArray }) :: news) → OwnOff ((d, dictOf es n) :: (t, { cls := .type "tuple", data := .seq [k, a].toArray }) :: news) [x] → getL "kind" es = some (some k) → getL "at" es = some (some a) → Q (.ref x) { s with heap := h', toks := tk }) :
    wpAny (model PG w) A (call (.ref 45) [k, a]) Q E s := by
  k_with_none
  w_top off
  refine wpAny_call ?_
  have X1 := X.keeps F.keep
  obtain ⟨nm, q, bs, sn, sub, ab, col, dd, k0, k1, k2, k3, k5, hC⟩ := cls45 X1
  obtain ⟨oI, hI, hIc⟩ := init29 X1
  have F1 := (F.push { cls := .type "tuple", data := .seq [k, a].toArray }).push (excObj 45 s.heap.objs.size none)
  have N1 := (N.push F { cls := .type "tuple", data := .seq [k, a].toArray }).push (F.push _) (excObj 45 s.heap.objs.size none)
  rw [Heap.size_push] at N1
  have O1 : OwnOff ((s.heap.objs.size, ({ cls := .type "tuple", data := .seq [k, a].toArray } : Obj)) :: news) [s.heap.objs.size + 1] := by
    intro p hp b hb
    rw [List.mem_singleton.mp hb]
    rcases List.mem_cons.mp hp with rfl | hp
    · exact Nat.ne_of_lt (Nat.lt_succ_self _)
    · exact Nat.ne_of_lt (Nat.lt_succ_of_lt (Heap.lt_size (N p hp).1))
  obtain ⟨hh, gg, dr, tk, os⟩ := s
  dsimp only at *
  refine exc_make PySem.F.excBase_Exception under45 hC (looks_findIn X1 (kc1 w)) hI hIc (by rw [sizeLine_eq]; simp) ?_
  clear hC X1 hI F N hIc
  generalize hh.objs.size = t at *
  generalize t + 1 = x at *
  k_dflt (refine' code_def ?k1 ?k2 ?k3 ?k4 ?k5 ?kA ?kF ?kK ?k6 ?k7 ?k8 ?k9 ?kB ?_ ?c2 ?c3 ?c4 ?c5; (case kA => exact hA); (case kF => exact hf); (case kK => exact hke); (case k1 => k_asm); (case k2 => k_asm); (case k3 => k_asm); (case k4 => k_asm); (case k5 => k_asm); (case k6 => k_is); (case k7 => k_is); (case k8 => (rw [depth_under_kw]; exact hroom)); (case k9 => first | exact BindsTo.of_eq rfl | exact binds_K (by k_in) rfl (by k_is) rfl rfl rfl); (case c5 => decide); (case kB => exact locs rfl); (case c2 => exact rfl); (case c3 => exact rfl); (case c4 => exact rfl); k_whole; intro g' L' h' FG' F' N' B' X' T'; (try dsimp only))
  (repeat' ((fail_if_success (with_reducible show wpAny _ _ (pyIter _) _ _ _)); (first | (k_unfold; (try dsimp only)) | (k_end; wrow_close) | walk1 | (dsimp only; walk1) | (leave1; walk_say "STEP leave1"; try dsimp only) | fail "no step")))
  rename (∀ p ∈ (x, _) :: _, p.1 ≠ _) => hne9
  refine ret x t _ _ _ _ _ (by assumption) (by assumption) (fun p hp b hb => ?_) rfl rfl
  rw [List.mem_singleton.mp hb]
  rcases List.mem_cons.mp hp with rfl | hp
  · exact (hne9 _ (.head _)).symm
  · exact O1 p hp x (List.mem_singleton.mpr rfl)
theorem design_new3 {w : World} {mean : ExcName → Option Value} {mg mb : Str → Option Value} {A A₀ : Around} {base h₀ : Heap} {env : Env} {outer : List Env} {L : Addr} {m : Str → Option Value}
    {s : Shared} {news : List (Addr × Obj)} {k a dt : Value} {Q E : Value → Shared → Prop}
    (B : Below A₀ base outer h₀) (F : Fr h₀ L s.heap m) (X : Frag.In (hd.heap_39 w.params) h₀) (N : News h₀ L s.heap news)
    (T : Top hd.view_39 LO mean mg mb h₀) (hA : A.frames = some (env :: outer)) (hf : env.frame = some L) (hke : env.scope.kind = .function) (hroom : A.depth + 1 < recursionLimit)
    (ret : ∀ x t d es n h' tk, Fr h₀ L h' m → News h₀ L h' ((d, dictOf es n) :: (x, excObj 45 t (some d)) :: (t, { cls := .type "tuple", data := .seq [k, a, dt].toArray }) :: news) → OwnOff ((d, dictOf es n) :: (t, { cls := .type "tuple", data := .seq [k, a, dt].toArray }) :: news) [x] → getL "kind" es = some (some k) → getL "at" es = some (some a) → Q (.ref x) { s with heap := h', toks := tk }) :
    wpAny (model PG w) A (call (.ref 45) [k, a, dt]) Q E s := by
  k_with_none
  w_top off
  refine wpAny_call ?_
  have X1 := X.keeps F.keep
  obtain ⟨nm, q, bs, sn, sub, ab, col, dd, k0, k1, k2, k3, k5, hC⟩ := cls45 X1
  obtain ⟨oI, hI, hIc⟩ := init29 X1
  have F1 := (F.push { cls := .type "tuple", data := .seq [k, a, dt].toArray }).push (excObj 45 s.heap.objs.size none)
  have N1 := (N.push F { cls := .type "tuple", data := .seq [k, a, dt].toArray }).push (F.push _) (excObj 45 s.heap.objs.size none)
  rw [Heap.size_push] at N1
  have O1 : OwnOff ((s.heap.objs.size, ({ cls := .type "tuple", data := .seq [k, a, dt].toArray } : Obj)) :: news) [s.heap.objs.size + 1] := by
    intro p hp b hb
    rw [List.mem_singleton.mp hb]
    rcases List.mem_cons.mp hp with rfl | hp
    · exact Nat.ne_of_lt (Nat.lt_succ_self _)
    · exact Nat.ne_of_lt (Nat.lt_succ_of_lt (Heap.lt_size (N p hp).1))
  obtain ⟨hh, gg, dr, tk, os⟩ := s
  dsimp only at *
  refine exc_make PySem.F.excBase_Exception under45 hC (looks_findIn X1 (kc1 w)) hI hIc (by rw [sizeLine_eq]; simp) ?_
  clear hC X1 hI F N hIc
  generalize hh.objs.size = t at *
  generalize t + 1 = x at *
  k_dflt (refine' code_def ?k1 ?k2 ?k3 ?k4 ?k5 ?kA ?kF ?kK ?k6 ?k7 ?k8 ?k9 ?kB ?_ ?c2 ?c3 ?c4 ?c5; (case kA => exact hA); (case kF => exact hf); (case kK => exact hke); (case k1 => k_asm); (case k2 => k_asm); (case k3 => k_asm); (case k4 => k_asm); (case k5 => k_asm); (case k6 => k_is); (case k7 => k_is); (case k8 => (rw [depth_under_kw]; exact hroom)); (case k9 => first | exact BindsTo.of_eq rfl | exact binds_K (by k_in) rfl (by k_is) rfl rfl rfl); (case c5 => decide); (case kB => exact locs rfl); (case c2 => exact rfl); (case c3 => exact rfl); (case c4 => exact rfl); k_whole; intro g' L' h' FG' F' N' B' X' T'; (try dsimp only))
  (repeat' ((fail_if_success (with_reducible show wpAny _ _ (pyIter _) _ _ _)); (first | (k_unfold; (try dsimp only)) | (k_end; wrow_close) | walk1 | (dsimp only; walk1) | (leave1; walk_say "STEP leave1"; try dsimp only) | fail "no step")))
  rename (∀ p ∈ (x, _) :: _, p.1 ≠ _) => hne9
  refine ret x t _ _ _ _ _ (by assumption) (by assumption) (fun p hp b hb => ?_) rfl rfl
  rw [List.mem_singleton.mp hb]
  rcases List.mem_cons.mp hp with rfl | hp
  · exact (hne9 _ (.head _)).symm
  · exact O1 p hp x (List.mem_singleton.mpr rfl)
end Mine
/-! EX6 -/
namespace Mine
open PySem PySem.W PyProof.Rows PySem.Calls
/-- an exception under way (fl: the frame that holds it, or none), its dict told -/
def TrD (base : Heap) (e : Addr) (cls a0 fl : Value) (d : Addr) (h : Heap) : Prop :=
  ∃ oe vs T oT ts, h.get? e = some oe ∧ (oe.cls = cls ∧ oe.dict = some d ∧ vs[0]? = some a0) ∧ oe.data = .fields vs ∧ vs[1]? = some (.ref T) ∧ base.get? T = none ∧ T ≠ e ∧ h.get? T = some oT ∧ oT.data = .fields ts ∧ ts[3]? = some fl
def FlD (base : Heap) (l : List Env) (e : Addr) (cls a0 fl : Value) (d : Addr) (h : Heap) : Prop :=
  base.StaysIn h ∧ base.get? e = none ∧ h.FunFrames base l ∧ TrD base e cls a0 fl d h
theorem FlD.there {base : Heap} {l : List Env} {e d : Addr} {cls a0 fl : Value} {h : Heap} (x : FlD base l e cls a0 fl d h) : ∃ oe vs, h.get? e = some oe ∧ oe.cls = cls ∧ oe.dict = some d ∧ oe.data = .fields vs := by
  obtain ⟨_, _, _, oe, vs, _, _, _, h1, h2, h3, _⟩ := x
  exact ⟨oe, vs, h1, h2.1, h2.2.1, h3⟩
theorem mapFields_dict (o : Obj) (f : Array Value → Array Value) : (o.mapFields f).dict = o.dict := by
  obtain ⟨_, _, dt, _⟩ := o
  cases dt <;> rfl
section
variable {M : Model} {A : Around} {E : Value → Shared → Prop} {s : Shared} {base : Heap} {env : Env} {outer : List Env} {L e d : Addr} {oe : Obj} {vs : Array Value} {head a0 : Value} {hadNext : Bool}

theorem entry_D {Q : Unit → Shared → Prop} (hfr : A.frames = some (env :: outer)) (hl : s.heap.FunFrames base (env :: outer)) (hf : env.frame = some L)
    (he : s.heap.get? e = some oe) (hod : oe.dict = some d) (hkb : base.StaysIn s.heap) (hen : base.get? e = none) (hd : oe.data = .fields vs) (hsz : 1 < vs.size) (h0 : vs[0]? = some a0)
    (h : ∀ h', FlD base (env :: outer) e oe.cls a0 (rawInt L) d h' → s.heap.UpToSlots h' → Q () { s with heap := h' }) :
    wpAny M A (do let a ← frameOf env; let pl ← entryPlaceOf L hadNext; let b ← EntryCells.newEntry head a .none (rawInt L) .none pl; setField (.ref e) 1 b) Q E s := by
  have notFrame : e ∉ (env :: outer).filterMap (·.frame) := fun hm => by
    obtain ⟨_, o, ho, hn⟩ := hl.mem hm
    rw [he] at ho
    cases ho
    exact hn vs hd
  refine wpAny_bind (wpAny_frameOf_fun hfr hl hf fun h₁ S => wpAny_bind (wpAny_entryPlaceOf fun pl hpl => ?_))
  unfold EntryCells.newEntry newFields
  refine wpAny_bind (wpAny_newObj_type ?_ (hpl.sizeOk5 _ _ _ _ _))
  have he₁ : h₁.get? e = some oe := (S.2.1 e notFrame).trans he
  have kb₁ : base.StaysIn h₁ := fun b o q => (S.2.1 b fun hm => by rw [(hl.mem hm).1] at q; cases q).trans (hkb b o q)
  generalize htb : ([head, .ref L, .none, rawInt L, .none] ++ (if pl.isEmpty then List.replicate 6 Value.none else pl)).toArray = tb
  have he₂ : (h₁.push { cls := .type "traceback", dict := none, data := .fields tb }).get? e = some oe := Heap.get?_push_of_some _ he₁
  have hTe : h₁.objs.size ≠ e := Nat.ne_of_gt (Heap.lt_size he₁)
  refine wpAny_setField he₂ hd hsz (h _ ?_ ?_)
  all_goals (
    have hd₃ := Obj.data_mapFields hd (·.setIfInBounds 1 (Value.ref h₁.objs.size))
    have he₃ := Heap.get?_update_self (Obj.mapFields (·.setIfInBounds 1 (Value.ref h₁.objs.size))) he₂ (Obj.isFreed_of_fields hd₃)
    have far : ∀ b o, b ≠ e → h₁.get? b = some o → ((h₁.push { cls := .type "traceback", dict := none, data := .fields tb }).update e (Obj.mapFields (·.setIfInBounds 1 (Value.ref h₁.objs.size)))).get? b = some o :=
      fun b o hb q => (Heap.get?_update_other _ _ (Ne.symm hb)).trans (Heap.get?_push_of_some _ q)
    have ne : ∀ b o, s.heap.get? b = some o → (∀ vs, o.data ≠ .fields vs) → b ≠ e := fun b o hb hn q => by
      rw [q, he] at hb
      cases hb
      exact hn vs hd)
  · refine ⟨fun b o q => far b o (fun z => by rw [z, hen] at q; cases q) (kb₁ b o q), hen, hl.of_keeps fun b o hb hn => ?_, ?_⟩
    · obtain ⟨sl, hs⟩ := S.2.2 b o hb
      exact ⟨_, far b _ (ne b o hb hn) hs, rfl⟩
    · refine ⟨_, _, h₁.objs.size, _, tb, he₃, ⟨Obj.cls_mapFields _ _, (mapFields_dict _ _).trans hod, by rw [Array.getElem?_setIfInBounds_ne (by decide)]; exact h0⟩, hd₃, by simp [hsz], kb₁.fresh, hTe, (Heap.get?_update_other _ _ (Ne.symm hTe)).trans (Heap.get?_push_size h₁ rfl), rfl, ?_⟩
      subst htb
      first | (simp; done) | (rcases hpl with rfl | ⟨_, _, _, _, _, _, _, rfl⟩ <;> simp)
  · intro b o hb hn
    obtain ⟨sl, hs⟩ := S.2.2 b o hb
    exact ⟨sl, far b _ (ne b o hb hn) hs⟩

theorem flight_D {Q : Unit → Shared → Prop} {l : List Env} {cls fl : Value} (x : FlD base l e cls a0 fl d s.heap)
    (h : ∀ h', FlD base l e cls a0 .none d h' → s.heap.UpToSlots h' → Q () { s with heap := h' }) : wpAny M A (setFlight (.ref e) none) Q E s := by
  obtain ⟨k1, k2, k3, oe, vs, T, oT, ts, he, hc, hd, h1, hnT, hTe, hT, hdT, h3⟩ := x
  have far : ∀ b, b ≠ T → (s.heap.update T (Obj.mapFields (·.setIfInBounds 3 ((none : Option Addr).elim Value.none fun f => rawInt f)))).get? b = s.heap.get? b := fun b hb => Heap.get?_update_other _ _ (Ne.symm hb)
  have ne : ∀ b o, s.heap.get? b = some o → (∀ vs, o.data ≠ .fields vs) → b ≠ T := fun b o hb hn q => by
    rw [q, hT] at hb
    cases hb
    exact hn ts hdT
  unfold setFlight
  refine wpAny_bind (wpAny_field he hd h1 ?_)
  rw [if_pos (show (Value.ref T != Value.none) = true from by simp)]
  refine wpAny_setField hT hdT (Array.getElem?_eq_some_iff.mp h3).1 (h _ ⟨fun b o q => (far b fun z => by rw [z, hnT] at q; cases q).trans (k1 b o q), k2, k3.of_keeps fun b o hb hn => ⟨o, (far b (ne b o hb hn)).trans hb, rfl⟩, ?_⟩ fun b o hb hn => ⟨o.slots, (far b (ne b o hb hn)).trans hb⟩)
  exact ⟨oe, vs, T, _, _, (far e (Ne.symm hTe)).trans he, hc, hd, h1, hnT, hTe, Heap.get?_update_self _ hT (Obj.isFreed_of_fields (Obj.data_mapFields hdT _)), Obj.data_mapFields hdT _, by simp [(Array.getElem?_eq_some_iff.mp h3).1]⟩

theorem leave_firstD {Q : Unit → Shared → Prop} (hfr : A.frames = some (env :: outer)) (hl : s.heap.FunFrames base (env :: outer)) (hf : env.frame = some L)
    (he : s.heap.get? e = some oe) (hod : oe.dict = some d) (hkb : base.StaysIn s.heap) (hen : base.get? e = none) (hd : oe.data = .fields vs) (h1 : vs[1]? = some .none) (h0 : vs[0]? = some a0)
    (h : ∀ h', FlD base (env :: outer) e oe.cls a0 .none d h' → s.heap.UpToSlots h' → Q () { s with heap := h' }) : wpAny M A (leaving env (.ref e)) Q E s := by
  unfold leaving noteFrame
  simp only [hf]
  refine wpAny_bind (wpAny_bind (wpAny_field he hd h1 ?_))
  rw [if_neg (by decide)]
  exact entry_D hfr hl hf he hod hkb hen hd (Array.getElem?_eq_some_iff.mp h1).1 h0 fun h' x u => flight_D (s := { s with heap := h' }) x fun h'' y v => h h'' y (u.trans v)

theorem looks_D {Q : Unit → Shared → Prop} {cls : Value} (hfr : A.frames = some (env :: outer)) (hf : env.frame = some L) (x : FlD base (env :: outer) e cls a0 .none d s.heap)
    (h : ∀ h', FlD base (env :: outer) e cls a0 (rawInt L) d h' → s.heap.UpToSlots h' → Q () { s with heap := h' }) : wpAny M A (noteFrame (.ref e) env) Q E s := by
  obtain ⟨k1, k2, k3, oe, vs, T, oT, ts, he, ⟨hc, hod, h0⟩, hd, h1, hnT, hTe, hT, hdT, h3⟩ := x
  subst hc
  unfold noteFrame
  simp only [hf]
  refine wpAny_bind (wpAny_field he hd h1 ?_)
  rw [if_pos (show (Value.ref T != Value.none) = true from by simp)]
  refine wpAny_bind (wpAny_field hT hdT h3 ?_)
  rw [if_neg (show ¬ ((Value.none == rawInt L) = true) from by simp [rawInt])]
  refine wpAny_bind (wpAny_setField hT hdT (Array.getElem?_eq_some_iff.mp h3).1 ?_)
  have far : ∀ b, b ≠ T → (s.heap.update T (Obj.mapFields (·.setIfInBounds 3 Value.none))).get? b = s.heap.get? b := fun b hb => Heap.get?_update_other _ _ (Ne.symm hb)
  have ne : ∀ b o, s.heap.get? b = some o → (∀ vs, o.data ≠ .fields vs) → b ≠ T := fun b o hb hn q => by
    rw [q, hT] at hb
    cases hb
    exact hn ts hdT
  refine entry_D (s := { s with heap := s.heap.update T (Obj.mapFields (·.setIfInBounds 3 Value.none)) }) hfr (k3.of_keeps fun b o hb hn => ⟨o, (far b (ne b o hb hn)).trans hb, rfl⟩) hf ((far e (Ne.symm hTe)).trans he) hod
    (fun b o q => (far b fun z => by rw [z, hnT] at q; cases q).trans (k1 b o q)) k2 hd (Array.getElem?_eq_some_iff.mp h1).1 h0 fun h' x u => h h' x fun b o hb hn => u b o ((far b (ne b o hb hn)).trans hb) hn
end
end Mine
/-! EX7 -/
namespace Mine
open PySem PySem.W PyProof.Rows PySem.Calls
def RaisedD (base : Heap) (l : List Env) (e : Addr) (cls a0 : Value) (d : Addr) (news : List (Addr × Obj)) (h : Heap) : Prop :=
  ∃ B, base.StaysIn B ∧ (∀ q ∈ news, B.get? q.1 = some q.2 ∧ base.get? q.1 = none) ∧ FlD B l e cls a0 .none d h
theorem flD_base {base B h : Heap} {l : List Env} {e d : Addr} {cls a0 fl : Value} (k : base.StaysIn B) (x : FlD B l e cls a0 fl d h) : FlD base l e cls a0 fl d h := by
  obtain ⟨f1, f2, f3, oe, vs, T, oT, ts, a1, a2, a3, a4, a5, a6⟩ := x
  exact ⟨fun b o q => f1 b o (k b o q), fresh_of_stays k f2, funFrames_base k f3, oe, vs, T, oT, ts, a1, a2, a3, a4, fresh_of_stays k a5, a6⟩

section
variable {M : Model} {A : Around} {E : Value → Shared → Prop} {s : Shared} {base g h : Heap} {outer : List Env} {L a e t d C : Addr} {m : Str → Option Value} {name : Str} {scope : Scope} {cd : Value} {cl : List (Str × Addr)} {Q : Unit → Shared → Prop} {news : List (Addr × Obj)}
theorem leave_D {env : Env} (hfe : env.frame = some L) (K : Below A base outer g) (F : Fr g L s.heap m) (N : News g L s.heap ((e, excObj C t (some d)) :: news)) (O : OwnOff news [e])
    (hk : env.scope.kind = .function)
    (hQ : ∀ h', RaisedD base outer e (.ref C) (.ref t) d news h' → g.UpToSlots h' → Q () { s with heap := h' }) :
    wpAny M (A.deeper env) (leaving env (.ref e)) Q E s := by
  have hgF : ∀ b, b ∈ (env :: outer).filterMap (·.frame) → b = L ∨ ∃ o, g.get? b = some o ∧ base.get? b = none := fun b hm => by
    obtain ⟨x, hx, hf⟩ := List.mem_filterMap.mp hm
    rcases List.mem_cons.mp hx with rfl | hx
    · rw [hfe] at hf; exact .inl (Option.some.inj hf).symm
    · obtain ⟨q, o, ho, _⟩ := K.frames.mem (List.mem_filterMap.mpr ⟨x, hx, hf⟩)
      exact .inr ⟨o, ho, q⟩
  have gL : g.get? L = none := by
    cases q : g.get? L with
    | none => rfl
    | some o => exact absurd (Nat.lt_of_lt_of_le (Heap.lt_size q) F.above) (Nat.lt_irrefl _)
  have bL : base.get? L = none := fresh_of_stays K.stays gL
  have he := N _ (.head _)
  let as := e :: (env :: outer).filterMap (·.frame)
  have st : base.StaysIn (hideAll s.heap as) := fun b o q => hideAll_get _ (F.keep b o (K.stays b o q)) fun hm => by
    rcases List.mem_cons.mp hm with rfl | hm
    · have := fresh_of_stays K.stays he.2.2; rw [this] at q; cases q
    · rcases hgF b hm with rfl | ⟨_, _, z⟩
      · rw [bL] at q; cases q
      · rw [z] at q; cases q
  have hl : ∀ q ∈ news, (hideAll s.heap as).get? q.1 = some q.2 ∧ base.get? q.1 = none := fun q hq => by
    have n := N q (.tail _ hq)
    refine ⟨hideAll_get _ n.1 fun hm => ?_, fresh_of_stays K.stays n.2.2⟩
    rcases List.mem_cons.mp hm with z | hm
    · exact O q hq e (List.mem_singleton.mpr rfl) z
    · rcases hgF _ hm with z | ⟨o, z, _⟩
      · exact n.2.1 z
      · rw [n.2.2] at z; cases z
  have fr : s.heap.FunFrames base (env :: outer) := by
    refine ⟨(by rw [hk]; intro q; cases q), ?_, K.frames.of_keeps fun b o hb _ => ⟨o, F.keep b o hb, rfl⟩⟩
    obtain ⟨oL, es, ep, hL, hLd, _⟩ := F.ns
    exact ⟨L, oL, hfe, bL, hL, fun vs q => by rw [hLd] at q; cases q⟩
  have fr' : s.heap.FunFrames (hideAll s.heap as) (env :: outer) := funFrames_hide fr fun x hx b hb => List.mem_cons_of_mem _ (List.mem_filterMap.mpr ⟨x, hx, hb⟩)
  have hen : (hideAll s.heap as).get? e = none := hideAll_none _ (List.mem_cons_self ..)
  refine leave_firstD (base := hideAll s.heap as) (Around.frames_deeper K.stack) fr' hfe he.1 rfl (fun b o q => of_hideAll _ q) hen rfl rfl rfl fun h' x u => ?_
  obtain ⟨k1, k2, ⟨_, _, k3⟩, k4⟩ := x
  exact hQ h' ⟨_, st, hl, k1, k2, k3, k4⟩ ((Heap.UpToSlots.of_keeps F.keep).trans u)
end

section
variable {A : Around} {E : Value → Shared → Prop} {s : Shared} {env : Env} {M : Model}
theorem raise_own {x : Sem Value} {C : Addr} {Q : Flow → Shared → Prop} (hh : A.handled = none)
    (h : wpAny M A x (fun v s₁ => ∃ e ox oC cd, v = .ref e ∧ s₁.heap.get? e = some ox ∧ notCls ox = true ∧ ox.cls = .ref C ∧ (∃ ws, ox.data = .fields ws ∧ ws[1]? = some .none) ∧ s₁.heap.get? C = some oC ∧ oC.cls = .type "type" ∧ oC.data = .cls cd ∧ cd.mro.isEmpty = false ∧ cd.mro.contains (.type "BaseException") = true ∧ E (.ref e) s₁) E s) :
    wpAny M A (raiseStmt env (some x) none) Q E s := by
  unfold raiseStmt
  refine wpAny_bind (wpAny_mono h (fun v s₁ h₁ => ?_) fun _ _ z => z)
  obtain ⟨e, ox, oC, cd, rfl, he, hn, hc, ⟨ws, hws, hw1⟩, hC, hCt, hCd, hm0, hm, hE⟩ := h₁
  obtain ⟨hp, g, dr, tk, os⟩ := s₁
  have t0 : Looks M hp (typeOf (.ref e)) (.ref C) := hc ▸ (Looks.ld he).andThen .now
  have t1 : Looks M hp (isSubtype (.ref C) (.type "BaseException")) true := by
    unfold isSubtype
    have L : Looks M hp (mroOf (.ref C)) cd.mro := by
      refine (show Looks M hp (classData C) cd from (Looks.ld (part := none) hC).andThen ?_).andThen .now
      rw [hCd]; exact .now
    refine L.andThen ?_
    dsimp only
    rw [if_neg (by rw [hm0]; decide), hm]
    exact .now
  have t2 : Looks M hp (isType (.ref e)) false := by
    refine (Looks.ld he).andThen ?_
    obtain ⟨oc, odi, oda, osl⟩ := ox
    cases oda <;> first | exact .now | cases hn
  have t3 : Looks M hp (typeOf (.ref C)) (.type "type") := hCt ▸ (Looks.ld hC).andThen .now
  unfold excFromValue isExcClass isInstance raisedInstance
  repeat lk
  rw [hws]
  refine wpAny_pure ?_
  rw [hw1]
  refine wpAny_pure ?_
  rw [if_neg (by decide)]
  exact wpAny_pure (wpAny_raiseNew_none hh hE)

theorem Raise_D {x : Str} {np cpos pos : Pos} {args : List PySem.Expr} {C : Addr} {Q : Flow → Shared → Prop} (hh : A.handled = none)
    (h : wpAny M A (eval (.Call (.Name x np) args [] cpos) env) (fun v s₁ => ∃ e ox oC cd, v = .ref e ∧ s₁.heap.get? e = some ox ∧ notCls ox = true ∧ ox.cls = .ref C ∧ (∃ ws, ox.data = .fields ws ∧ ws[1]? = some .none) ∧ s₁.heap.get? C = some oC ∧ oC.cls = .type "type" ∧ oC.data = .cls cd ∧ cd.mro.isEmpty = false ∧ cd.mro.contains (.type "BaseException") = true ∧ E (.ref e) s₁) E s) :
    wpAny M A (exec (.Raise (some (.Call (.Name x np) args [] cpos)) none pos) env) Q E s := by
  rw [arm_exec_Raise]
  simp only [evalOpt, Option.map]
  exact wpAny_bind (wpAny_standAt (raise_own hh (wpAny_bind (wpAny_mono h (fun v s₃ h₃ => wpAny_bind (wpAny_standAt (wpAny_pure h₃))) fun _ _ z => z))))
end

section
variable {prog : Program} {w : World} {A₀ : Around} {E : Value → Shared → Prop} {s' : Shared} {h₀ h : Heap} {outer : List Env} {L a e d : Addr} {m : Str → Option Value} {name : Str} {scope : Scope} {cd : Value} {a0 : Value}
  {n : Str} {b₀ : Stmt} {suite : List Stmt} {pos np : Pos} {rest : List ExceptHandler} {Q : Flow → Shared → Prop} {news : List (Addr × Obj)} {KF : Frag} {C N : Addr}
  {p : Program} {loose : List Str} {mean : ExcName → Option Value} {mg mb : Str → Option Value} {x : Str}
  {nm q : Str} {bs bm : List Value} {sn : List Str} {sub : List Value} {ab : Bool} {col : Option Bool} {dd : Option Addr} {k0 k1 k2 k3 k5 : Option Value} {newId : String}
/-- an own exception with a dict, caught by the frame's own clause «except C as n» -/
theorem caught_D (K : Below A₀ h₀ outer h₀) (F : Fr h₀ L h m) (hsm : h.UpToSlots s'.heap) (R : RaisedD h₀ (envOf name scope L a cd :: outer) e (.ref C) a0 d news s'.heap)
    (X : KF.In h₀) (T : TopRead p loose mg mb h₀) (ex : nsIn KF mainGlobals x = some (some (.ref C))) (hC : h₀.get? C = some (excClassObj nm q C N bs bm true sn sub ab col dd k0 k1 k2 k3 k5 newId)) (hbase : bm.contains (.type "BaseException") = true)
    (k : ∀ h' oe vs tk, Fr h₀ L h' (fun y => if y = n then some (.ref e) else m y) → News h₀ L h' ((e, oe) :: news) → oe.cls = .ref C → oe.dict = some d → oe.data = .fields vs →
      wpAny (model prog w) ((A₀.deeper (envOf name scope L a cd)).mark (some (.ref e))) (execs (b₀ :: suite) (envOf name scope L a cd))
        (fun f s₄ => wpAny (model prog w) (A₀.deeper (envOf name scope L a cd)) (do bindName (envOf name scope L a cd) n .none; unbindBehindTheSuite (envOf name scope L a cd) n pos) (fun _ s₅ => Q f s₅) E s₄)
        (AsSuiteRaised (model prog w) ((A₀.deeper (envOf name scope L a cd)).mark (some (.ref e))) (envOf name scope L a cd) n pos (notedBy (model prog w) ((A₀.deeper (envOf name scope L a cd)).mark (some (.ref e))) (envOf name scope L a cd) (cameBackBy (model prog w) (A₀.deeper (envOf name scope L a cd)) (envOf name scope L a cd) E)))
        { s' with heap := h', toks := tk })
    (hk : scope.kind = .function := by rfl) (hlo : (envOf name scope L a cd).kindOf n = some .local := by rfl) (hx : (envOf name scope L a cd).kindOf x = some .globalImplicit := by rfl) (hd : (x == ("__debug__" : Str)) = false := by decide) :
    wpAny (model prog w) (A₀.deeper (envOf name scope L a cd)) (noteFrame (.ref e) (envOf name scope L a cd))
      (fun _ s₂ => wpAny (model prog w) (A₀.deeper (envOf name scope L a cd)) (setFlight (.ref e) none) (fun _ s₃ =>
        wpAny (model prog w) (A₀.deeper (envOf name scope L a cd)) (handleBy (.ref e) (envOf name scope L a cd) (.ExceptHandler (some (.Name x np)) (some n) (b₀ :: suite) pos :: rest)) Q E s₃) E s₂) E s' := by
  obtain ⟨B, hB, hl, hfl⟩ := R
  have hL : B.get? L = none := by
    obtain ⟨_, ⟨L', _, hf, hn', _⟩, _⟩ := hfl.2.2.1
    obtain rfl : L = L' := Option.some.inj hf
    exact hn'
  refine looks_D (Around.frames_deeper K.stack) rfl hfl fun h₄ x₄ u₄ => ?_
  refine flight_D x₄ fun h₅ x₅ u₅ => ?_
  have u := u₄.trans u₅
  have F₅ := F.of_stays (flD_base hB x₅).1 (hsm.trans u)
  obtain ⟨ob, vb, hob, hobc, _, _⟩ := x₅.there
  refine wpAny_handleBy_cons (codeAny_handlers_test (name_K F₅ X T ex ?_ hk hx hd)) (by intro z; cases z)
  refine wpAny_excMatches_sub_self (F₅.keep _ _ hC) hob hobc hbase (codeAny_handlers_suite_as ?_)
  refine flight_D x₅ fun h₆ x₆ u₆ => ?_
  have x₆' := flD_base hB x₆
  have F₆ := F.of_stays x₆'.1 ((hsm.trans u).trans u₆)
  obtain ⟨oe, vs, hoe, hoec, hoed, hoeD⟩ := x₆'.there
  have N₆ : News h₀ L h₆ ((e, oe) :: news) := fun z hz => by
    rcases List.mem_cons.mp hz with rfl | hz
    · refine ⟨hoe, fun q => ?_, x₆'.2.1⟩
      obtain ⟨oL, es, ep, hoL, hLd, _⟩ := F₆.ns
      rw [← q] at hoL
      dsimp only at hoL
      rw [hoe] at hoL
      cases hoL
      rw [hoeD] at hLd
      cases hLd
    · exact ⟨x₆.1 _ _ (hl z hz).1, (fun q => by have := (hl z hz).1; rw [q, hL] at this; cases this), (hl z hz).2⟩
  exact stN F₆ N₆ (fun h₇ F₇ N₇ => k h₇ oe vs _ F₇ N₇ hoec hoed hoeD) hk hlo
end
end Mine
/-! EX8 -/
namespace Mine
open PySem PySem.W PyProof.Rows PySem.Calls
theorem raise_fin {w : World} {g : Heap} {L : Addr} {s₁ : Shared} {m : Str → Option Value} {x t d : Addr} {p : Addr × Obj} {rest : List (Addr × Obj)} {E : Value → Shared → Prop} (X : Frag.In (hd.heap_39 w.params) g) (F : Fr g L s₁.heap m) (N : News g L s₁.heap (p :: (x, excObj 45 t (some d)) :: rest)) (h : E (.ref x) s₁) :
    ∃ e ox oC cd, Value.ref x = .ref e ∧ s₁.heap.get? e = some ox ∧ notCls ox = true ∧ ox.cls = .ref 45 ∧ (∃ ws, ox.data = .fields ws ∧ ws[1]? = some .none) ∧ s₁.heap.get? 45 = some oC ∧ oC.cls = .type "type" ∧ oC.data = .cls cd ∧ cd.mro.isEmpty = false ∧ cd.mro.contains (.type "BaseException") = true ∧ E (.ref e) s₁ := by
  obtain ⟨nm, q, bs, sn, sub, ab, col, dd, k0, k1, k2, k3, k5, hC⟩ := cls45 (X.keeps F.keep)
  exact ⟨x, _, _, _, rfl, (N _ (.tail _ (.head _))).1, rfl, rfl, ⟨_, rfl, rfl⟩, hC, rfl, rfl, rfl, rfl, h⟩
theorem raise_out {M : Model} {A : Around} {E : Value → Shared → Prop} {s : Shared} {base g : Heap} {env : Env} {outer : List Env} {L x t d : Addr} {es : List DictEntry} {n : Nat} {tup : Obj} {m : Str → Option Value} {Q : Unit → Shared → Prop} {news led : List (Addr × Obj)}
    (hfe : env.frame = some L) (K : Below A base outer g) (F : Fr g L s.heap m) (N : News g L s.heap ((d, dictOf es n) :: (x, excObj 45 t (some d)) :: (t, tup) :: led)) (O : OwnOff ((d, dictOf es n) :: (t, tup) :: led) [x]) (hk : env.scope.kind = .function) (sub : ∀ p ∈ news, p ∈ led)
    (hQ : ∀ h', RaisedD base outer x (.ref 45) (.ref t) d ((d, dictOf es n) :: news) h' → g.UpToSlots h' → Q () { s with heap := h' }) : wpAny M (A.deeper env) (leaving env (.ref x)) Q E s := by
  refine leave_D hfe K F (t := t) (C := 45) (d := d) (news := (d, dictOf es n) :: news) (fun p hp => N p ?_) (fun p hp => O p ?_) hk hQ
  · rcases List.mem_cons.mp hp with rfl | hp
    · exact .tail _ (.head _)
    · rcases List.mem_cons.mp hp with rfl | hp
      · exact .head _
      · exact .tail _ (.tail _ (.tail _ (sub p hp)))
  · rcases List.mem_cons.mp hp with rfl | hp
    · exact .head _
    · exact .tail _ (.tail _ (sub p hp))
end Mine
/-! KT -/
namespace Mine
open PySem PySem.W PyProof.Rows PySem.Calls PyProof.V
section
variable {prog : Program} {w : World} {A : Around} {E : Value → Shared → Prop} {s : Shared} {env : Env} {h₀ : Heap} {target : PySem.Expr} {body : List Stmt} {Q : Flow → Shared → Prop}
/-- a loop over a tuple of the ledger, any target -/
theorem tup_iterG {l : Addr} {vs : List Value} {nn : Nat} {lo : Obj} {m₀ : Str → Option Value} {news : List (Addr × Obj)} (J : Nat → (Str → Option Value) → List (Addr × Obj) → Prop)
    (hh : A.handled = none) (hl : (l, lo) ∈ news) (hc : lo.cls = .type "tuple") (hd : lo.data = .seq vs.toArray nn) (F : Fr h₀ env.locals s.heap m₀) (N : News h₀ env.locals s.heap news) (hj : J 0 m₀ news)
    (turn : ∀ i v m₁ nx h tk own, vs[i]? = some v → OwnOff own (nx.map (·.1)) → (l, lo) ∈ nx → J i m₁ nx → Fr h₀ env.locals h m₁ → News h₀ env.locals h (nx ++ own) →
      wpAny (model prog w) A (assign target env v) (fun _ s₂ => wpAny (model prog w) A (execs body env) (InvPostG h₀ env.locals (fun m' nx' => (l, lo) ∈ nx' ∧ J (i + 1) m' nx') own { s with heap := h, toks := tk } Q) E s₂) E { s with heap := h, toks := tk })
    (done : ∀ m₁ nx h tk, J vs.length m₁ nx → (l, lo) ∈ nx → Fr h₀ env.locals h m₁ → News h₀ env.locals h nx → Q .next { s with heap := h, toks := tk }) :
    wpAny (model prog w) A (pyIter (.ref l)) (fun it s₂ => TurnsAt prog w A h₀ env target body Q E it s₂) E s := by
  have hol : s.heap.get? l = some lo := (N _ hl).1
  have hls : s.heap.IsTuple l vs.toArray := ⟨lo, hol, hc, nn, hd⟩
  have hne : l ≠ s.heap.objs.size := Nat.ne_of_lt (Heap.lt_size hol)
  refine wpAny_pyIter_tuple hls ?_
  have W := KTurns.ofWalks (target := target) (Walks.tuple (prog := prog) (w := w) hh s.heap.objs.size l hne vs.toArray) fun i v s Q E st q => letGo_tupleiter st.1 q
  have hlen : vs.toArray.size = vs.length := by simp
  rw [hlen] at W
  refine ⟨_, _, _, vs.length, _, _, _, m₀, news, (fun i m nx => (l, lo) ∈ nx ∧ J i m nx), rfl, W, ?_, ?_, ?_, ⟨⟨_, Heap.get?_push_size _ rfl, rfl, rfl⟩, hls.at fun o e => Heap.get?_push_of_some _ e⟩, F.push _, (fun p hp => ⟨Heap.get?_push_of_some _ (N p hp).1, (N p hp).2⟩), ⟨hl, hj⟩, ?_, ?_⟩
  · intro hm
    rcases List.mem_cons.mp hm with e | hm
    · exact absurd F.ns.lt (e ▸ Nat.lt_irrefl _)
    · exact (N _ hl).2.1 ((List.mem_singleton.mp hm).symm)
  · intro b hb
    rw [List.mem_singleton.mp hb]
    exact next_is_new F
  · intro p hp hI
    exact absurd (Heap.lt_size (N p hp).1) ((List.mem_singleton.mp hI) ▸ Nat.lt_irrefl _)
  · intro i v m₁ nx h₁ tk₁ own hin hP hJ hoff hown hget hall hst F₁ N₁
    obtain ⟨hl₁, hJ⟩ := hJ
    have hv : vs[i]? = some v := by
      have hP' : vs.toArray[i]? = some v := hP
      simpa using hP'
    have hI0 : h₀.get? s.heap.objs.size = none := next_is_new F
    obtain ⟨⟨oI, hoI, _⟩, _⟩ := id hst
    have hIown : (s.heap.objs.size, oI) ∈ own.filter fun p => decide (p.1 = s.heap.objs.size) := List.mem_filter.mpr ⟨hall _ (List.mem_cons.mpr (.inl rfl)) hI0 _ hoI, by simp⟩
    have hsep : OwnOff (own.filter fun p => decide (p.1 = s.heap.objs.size)) (nx.map (·.1)) := by
      intro p hp b hb e
      obtain ⟨q, hq, rfl⟩ := List.mem_map.mp hb
      have h1 : p.1 = s.heap.objs.size := by simpa using (List.mem_filter.mp hp).2
      exact hoff q hq (List.mem_singleton.mpr (e ▸ h1))
    have N₂ : News h₀ env.locals h₁ (nx ++ own.filter fun p => decide (p.1 = s.heap.objs.size)) := fun p hp => N₁ p ((List.mem_append.mp hp).elim (fun h => List.mem_append.mpr (.inr h)) fun h => List.mem_append.mpr (.inl ((List.mem_filter.mp h).1)))
    have hlo : h₁.get? l = some lo := (N₁ _ (List.mem_append.mpr (.inr hl₁))).1
    refine wpAny_mono (turn i v m₁ nx h₁ tk₁ _ hv hsep hl₁ hJ F₁ N₂) (fun _ s₂ q => wpAny_mono q (fun f s₃ p => ?_) fun _ _ e => e) fun _ _ e => e
    have fin : InvEndG h₀ env.locals (fun m' nx' => (l, lo) ∈ nx' ∧ J (i + 1) m' nx') (own.filter fun p => decide (p.1 = s.heap.objs.size)) { s with heap := h₁, toks := tk₁ } s₃ →
        LoopStepU h₀ env.locals [s.heap.objs.size] own (fun m nx => (l, lo) ∈ nx ∧ J (i + 1) m nx) { s with heap := h₁, toks := tk₁ } .next s₃ := by
      rintro ⟨h', tk, m', news', nx', e, F', N', hn, ho, ha, hm⟩
      refine ⟨rfl, h', tk, m', nx', e, F', fun p hp => ?_, fun p hp hq => ?_, hm⟩
      · rcases List.mem_append.mp hp with h | h
        · by_cases hI : p.1 = s.heap.objs.size
          · exact N' p (ho p (List.mem_filter.mpr ⟨h, by simpa using hI⟩))
          · have h1 : p.1 = l := by
              rcases List.mem_cons.mp (hown p h) with h2 | h2
              · exact absurd h2 hI
              · exact List.mem_singleton.mp h2
            have h2 : h₁.get? p.1 = some p.2 := hget p h
            rw [h1, hlo] at h2
            have h3 : p = (l, lo) := Prod.ext h1 (Option.some.inj h2).symm
            rw [h3]
            exact N' _ (hn _ hm.1)
        · exact N' p (hn p h)
      · exact ha _ hIown p.1 (List.mem_map.mpr ⟨p, hp, rfl⟩) (List.mem_singleton.mp hq).symm
    cases f with
    | ret v => exact .ret p
    | brk => exact .brk p
    | next => exact .next (fin p)
    | cont => exact .cont (fin p)
  · rintro h' tk m' news' F' N' _ ⟨hl', hJ⟩
    exact done m' news' h' tk hJ hl' F' N'

/-- the same, the frame's names that the turn stores told -/
theorem tup_loopS {l : Addr} {vs : List Value} {nn : Nat} {lo : Obj} {m₀ : Str → Option Value} {news : List (Addr × Obj)} (stored : List Str) (J : Nat → List (Addr × Obj) → Prop)
    (hh : A.handled = none) (hl : (l, lo) ∈ news) (hc : lo.cls = .type "tuple") (hd : lo.data = .seq vs.toArray nn) (F : Fr h₀ env.locals s.heap m₀) (N : News h₀ env.locals s.heap news) (hj : J 0 news)
    (turn : ∀ i v (u : Str → Option Value) nx h tk own, vs[i]? = some v → OwnOff own (nx.map (·.1)) → (l, lo) ∈ nx → J i nx → Fr h₀ env.locals h (fun z => if stored.contains z then u z else m₀ z) → News h₀ env.locals h (nx ++ own) →
      wpAny (model prog w) A (assign target env v) (fun _ s₂ => wpAny (model prog w) A (execs body env) (InvPostG h₀ env.locals (fun m' nx' => (l, lo) ∈ nx' ∧ (∀ z, stored.contains z = false → m' z = m₀ z) ∧ J (i + 1) nx') own { s with heap := h, toks := tk } Q) E s₂) E { s with heap := h, toks := tk })
    (done : ∀ (u : Str → Option Value) nx h tk, J vs.length nx → (l, lo) ∈ nx → Fr h₀ env.locals h (fun z => if stored.contains z then u z else m₀ z) → News h₀ env.locals h nx → Q .next { s with heap := h, toks := tk }) :
    wpAny (model prog w) A (pyIter (.ref l)) (fun it s₂ => TurnsAt prog w A h₀ env target body Q E it s₂) E s := by
  have same : ∀ m₁ : Str → Option Value, (∀ z, stored.contains z = false → m₁ z = m₀ z) → m₁ = fun z => if stored.contains z then m₁ z else m₀ z := fun m₁ h => by
    funext z
    cases hz : stored.contains z with
    | true => rfl
    | false => exact h z hz
  refine tup_iterG (fun i m nx => (∀ z, stored.contains z = false → m z = m₀ z) ∧ J i nx) hh hl hc hd F N ⟨fun _ _ => rfl, hj⟩ ?_ ?_
  · rintro i v m₁ nx h tk own hv ho hl' ⟨h1, h2⟩ F₁ N₁
    rw [same m₁ h1] at F₁
    exact turn i v m₁ nx h tk own hv ho hl' h2 F₁ N₁
  · rintro m₁ nx h tk ⟨h1, h2⟩ hl' F₁ N₁
    rw [same m₁ h1] at F₁
    exact done m₁ nx h tk h2 hl' F₁ N₁
theorem tup_end {L l : Addr} {lo : Obj} {m₀ m' : Str → Option Value} {stored : List Str} {J : List (Addr × Obj) → Prop} {own news' : List (Addr × Obj)} {s₁ : Shared} {h' : Heap} {tk : Nat} (nx : List (Addr × Obj)) (F : Fr h₀ L h' m') (N : News h₀ L h' news')
    (hn : ∀ p ∈ nx, p ∈ news') (ho : ∀ p ∈ own, p ∈ news') (ha : OwnOff own (nx.map (·.1))) (hl : (l, lo) ∈ nx) (hr : ∀ z, stored.contains z = false → m' z = m₀ z) (hj : J nx) :
    InvEndG h₀ L (fun m' nx' => (l, lo) ∈ nx' ∧ (∀ z, stored.contains z = false → m' z = m₀ z) ∧ J nx') own s₁ { s₁ with heap := h', toks := tk } := ⟨h', tk, m', news', nx, rfl, F, N, hn, ho, ha, hl, hr, hj⟩
end
end Mine
/-! KC -/
namespace Mine
open PySem PySem.W PyProof.Rows PySem.Calls PyProof.V PyProof.Rows.LCg PySem.Spec
/-- what a comprehension keeps of n turns -/
def sel (keep : Nat → Bool) (pick : Nat → Value) : Nat → List Value
  | 0 => []
  | n + 1 => sel keep pick n ++ (if keep n then [pick n] else [])
theorem sel_length (keep : Nat → Bool) (pick : Nat → Value) (n : Nat) : (sel keep pick n).length ≤ n := by
  induction n with
  | zero => exact Nat.le_refl _
  | succ n ih => rw [sel, List.length_append]; split <;> simp <;> omega
/-- the tests of a clause -/
abbrev testsOf (ifs : List PySem.Expr) (env : Env) : Sem Bool := forIn ifs true fun c r => if r = true then do let ok ← isTrue c env (eval c env); pure (ForInStep.yield ok) else pure (ForInStep.yield r)
section
variable {prog : Program} {w : World} {A : Around} {E : Value → Shared → Prop} {s : Shared} {h₀ : Heap} {L : Addr} {m : Str → Option Value} {env : Env}
theorem comp_loop {elt target iter : PySem.Expr} {ifs : List PySem.Expr} {scope : Scope} {pos : Pos} {it acc : Value} {env : Env} {R : Result → Shared → Prop} (I : Nat → Shared → Prop)
    (turn : ∀ n s, I n s → wpAny (model prog w) A (pyNext it) (fun r s₁ => match r with
      | none => R (.ok .next) s₁
      | some v => wpAny (model prog w) A (letOwnedTupleGo target it v) (fun _ s₀ => wpAny (model prog w) A (assign target env v) (fun _ s₂ =>
          wpAny (model prog w) A (testsOf ifs env) (fun ok s₃ => if ok = true then wpAny (model prog w) A (eval elt env) (fun x s₄ =>
            wpAny (model prog w) A (call (.builtin "list.append") [acc, x]) (fun _ s₅ => ∃ m, m < n ∧ I m s₅) (notedBy (model prog w) A env fun e s' => R (.error e) s') s₄) (notedBy (model prog w) A env fun e s' => R (.error e) s') s₃
            else ∃ m, m < n ∧ I m s₃) (notedBy (model prog w) A env fun e s' => R (.error e) s') s₂)
          (notedBy (model prog w) A env fun e s' => R (.error e) s') s₀) (notedBy (model prog w) A env fun e s' => R (.error e) s') s₁) (notedBy (model prog w) A env fun e s' => R (.error e) s') s)
    (n : Nat) (h : I n s) : codeAny (model prog w) A (.compLoop (.ListComp elt [⟨target, iter, ifs, 0⟩] scope pos) 0 it acc env) R s := by
  refine codeAny_loop rfl I (fun n s hI => ?_) n h
  show wpAny _ A ((compTurn (.ListComp elt [⟨target, iter, ifs, 0⟩] scope pos) 0 it acc env).onRaise (fun x => do noteFrame x env; theTreesLotGoes x)) _ _ s
  refine wpAny_noted ?_
  rw [compTurn_list]
  refine wpAny_bind (wpAny_standAt (wpAny_bind (wpAny_mono (turn n s hI) (fun r s₁ h₁ => ?_) fun _ _ z => z)))
  cases r with
  | none => exact wpAny_pure h₁
  | some v =>
    refine wpAny_bind (wpAny_mono h₁ (fun _ s₀ h₀' => ?_) fun _ _ z => z)
    refine wpAny_bind (wpAny_mono h₀' (fun _ s₂ h₂ => ?_) fun _ _ z => z)
    refine wpAny_bind (wpAny_mono h₂ (fun okb s₃ h₃ => ?_) fun _ _ z => z)
    cases okb with
    | false => exact wpAny_pure ⟨rfl, h₃⟩
    | true => exact wpAny_bind (wpAny_bind (wpAny_mono h₃ (fun x s₄ h₄ => wpAny_bind (wpAny_mono h₄ (fun _ s₅ h₅ => wpAny_pure (wpAny_pure ⟨rfl, h₅⟩)) fun _ _ z => z)) fun _ _ z => z))

/-- a turn's own steps: the pair's names stand in the block's frame, nothing of the heap changes -/
def PairTurn (prog : Program) (w : World) (A : Around) (h₀ : Heap) (L : Addr) (m : Str → Option Value) (env : Env) (elt : PySem.Expr) (ifs : List PySem.Expr) (x x₂ : Str) (scope : Scope) (cl : List (Str × Addr)) (s₂ : Shared) (news : List (Addr × Obj)) (v : Value) (keep : Bool) (pick : Value) : Prop :=
  ∃ (t : Addr) (ot : Obj) (a b : Value) (nt : Nat), v = .ref t ∧ (t, ot) ∈ news ∧ ot.cls = .type "tuple" ∧ ot.data = .seq #[a, b] nt ∧
    ∀ C oC m₂ h tk (E' : Value → Shared → Prop), NsObj oC m₂ → m₂ x = some a → m₂ x₂ = some b → Fr h₀ L h m → News h₀ L h ((C, oC) :: news) →
      wpAny (model prog w) A (testsOf ifs (compEnvC scope cl C env)) (fun ok s' => ok = keep ∧ (∃ tk', s' = { s₂ with heap := h, toks := tk' }) ∧ (keep = true → wpAny (model prog w) A (eval elt (compEnvC scope cl C env)) (fun y s'' => y = pick ∧ ∃ tk', s'' = { s₂ with heap := h, toks := tk' }) E' s')) E' { s₂ with heap := h, toks := tk }

theorem comp_block {elt iter : PySem.Expr} {ifs : List PySem.Expr} {x x₂ : Str} {px px₂ tp : Pos} {tk} {scope : Scope} {cl : List (Str × Addr)} {pos : Pos} {s₂ : Shared} {I : Addr} {fp : List Addr} {vs : List Value} {St : Nat → Heap → Prop} {news : List (Addr × Obj)}
    {keep : Nat → Bool} {pick : Nat → Value} {RR : Value → Addr → Result → Shared → Prop}
    (W : Walks prog w A I fp [I] vs.length (fun i v => vs[i]? = some v) St)
    (hgo : ∀ i v (s : Shared) (Q : Unit → Shared → Prop) (E : Value → Shared → Prop), St i s.heap → Q () s → wpAny (model prog w) A (letOwnedTupleGo (.Tuple [.Name x px, .Name x₂ px₂] tk tp) (.ref I) v) Q E s)
    (hsz : vs.length ≤ sizeLine)
    (hcell : ∀ y ∈ scope.names, y.2 ≠ .cell) (hkind : scope.kind = .function) (hx : scope.names.lookup x = some .local) (hx₂ : scope.names.lookup x₂ = some .local) (hxx : x ≠ x₂) (hh : A.handled = none) (hst : St 0 s₂.heap) (hfp : ∀ b ∈ fp, b < s₂.heap.objs.size)
    (F : Fr h₀ L s₂.heap m) (N : News h₀ L s₂.heap news) (hIL : L ≠ I) (hI₀ : h₀.get? I = none) (off : ∀ p ∈ news, p.1 ≠ I)
    (R : ∀ i v, vs[i]? = some v → PairTurn prog w A h₀ L m env elt ifs x x₂ scope cl s₂ news v (keep i) (pick i))
    (hRR : ∀ D C h tk m', Fr h₀ L h m → News h₀ L h ((D, lst (sel keep pick vs.length)) :: news) → Off1 D news → h.Ns C m' → h₀.get? C = none → h₀.get? D = none → C ≠ L → D ≠ L → C ≠ D → (∀ p ∈ news, p.1 ≠ C) → RR (.ref D) C (.ok .next) { s₂ with heap := h, toks := tk }) :
    wpAny (model prog w) A (newList []) (fun acc s₃ => wpAny (model prog w) A (newFunctionEnv scope env.globals cl [] env.qual none .none (some env)) (fun cenv s₄ =>
      codeAny (model prog w) A (.compStart (.ListComp elt [⟨.Tuple [.Name x px, .Name x₂ px₂] tk tp, iter, ifs, 0⟩] scope pos) 0 (.ref I) acc { cenv with scope := relabel scope env }) (RR acc cenv.locals) s₄) E s₃) E s₂ := by
  refine wpAny_newObj_type (wpAny_newFunctionEnv hcell (by intro y hy; simp at hy) (fun h₁ hns₁ hsb₁ => ?_) hkind)
  dsimp only at hns₁ hsb₁ ⊢
  generalize hH2 : s₂.heap.push { cls := .type "list", dict := none, data := .seq ([] : List Value).toArray } = H2 at hns₁ hsb₁ ⊢
  have hC : H2.objs.size = s₂.heap.objs.size + 1 := by rw [← hH2, Heap.size_push]
  generalize hDe : s₂.heap.objs.size = D at *
  generalize hCe : H2.objs.size = C at *
  have hDC : D ≠ C := by rw [hC]; exact Nat.ne_of_lt (Nat.lt_succ_self _)
  have below : ∀ b, b < D → b ≠ C ∧ b ≠ D := fun b hb => ⟨by rw [hC]; exact Nat.ne_of_lt (Nat.lt_succ_of_lt hb), Nat.ne_of_lt hb⟩
  have lt2 : ∀ {b o}, s₂.heap.get? b = some o → b < D := fun e => hDe ▸ Heap.lt_size e
  have hDf : D ∉ fp := fun hm => Nat.lt_irrefl _ (hfp _ hm)
  have hCf : C ∉ fp := fun hm => by have := hfp _ hm; rw [hC] at this; exact Nat.lt_irrefl _ (Nat.lt_of_succ_lt this)
  have hIlt : I < D := hfp I (W.sub I (List.mem_singleton.mpr rfl))
  have old : ∀ b o, s₂.heap.get? b = some o → h₁.get? b = some o := fun b o e => hsb₁.extBut b o (below b (lt2 e)).1 (Heap.get?_push_of_some _ (hH2 ▸ Heap.get?_push_of_some _ e))
  have hacc : h₁.get? D = some (lst []) := by
    refine hsb₁.extBut _ _ hDC (Heap.get?_push_of_some _ ?_)
    rw [← hH2, ← hDe]
    exact Heap.get?_push_size _ rfl
  have fresh₀ : ∀ a, D ≤ a → h₀.get? a = none := fun a ha => by
    cases e : h₀.get? a with
    | none => rfl
    | some o' => exact absurd (lt2 (F.keep a o' e)) (Nat.not_lt.mpr ha)
  have hD₀ : h₀.get? D = none := fresh₀ _ (Nat.le_refl _)
  have hC₀ : h₀.get? C = none := fresh₀ _ (by rw [hC]; exact Nat.le_succ _)
  have hLlt : L < D := hDe ▸ F.ns.lt
  have hDL : D ≠ L := Ne.symm (below L hLlt).2
  have hCL : C ≠ L := Ne.symm (below L hLlt).1
  have hCI : I ≠ C := (below I hIlt).1
  have hDI : I ≠ D := (below I hIlt).2
  have offA : ∀ p ∈ news, p.1 ≠ I ∧ p.1 ≠ C ∧ p.1 ≠ D := fun p hp => ⟨off p hp, (below _ (lt2 (N p hp).1)).1, (below _ (lt2 (N p hp).1)).2⟩
  have off3 : Off3 I C D news := Off3.of offA
  have loop : ∀ s₃ : Shared, s₃ = { s₂ with heap := h₁, toks := s₂.toks + ([] : List (Str × Value)).length } →
      codeAny (model prog w) A (.compLoop (.ListComp elt [⟨.Tuple [.Name x px, .Name x₂ px₂] tk tp, iter, ifs, 0⟩] scope pos) 0 (.ref I) (.ref D) (compEnvC scope cl C env)) (RR (.ref D) C) s₃ := by
    rintro s₃ rfl
    refine comp_loop
      (fun k s' => ∃ h' tk i m', s' = { s₂ with heap := h', toks := tk } ∧ i ≤ vs.length ∧ k = vs.length + 1 - i ∧ St i h' ∧ Fr h₀ L h' m ∧ h'.Ns C m' ∧ News h₀ L h' ((D, lst (sel keep pick i)) :: news)) ?_ (vs.length + 1)
      ⟨h₁, _, 0, _, rfl, Nat.zero_le _, rfl, W.frame _ _ _ hst fun b _ o e => old b o e, F.keeps old, hns₁, fun p hp => ?_⟩
    · rintro k s' ⟨h', tk, i, m', rfl, hi, rfl, hst', F', hn', N'⟩
      by_cases hlt : i < vs.length
      · refine W.item i _ _ _ hlt hst' fun v h₂ tk₂ hPv hst₂ hk₂ => ?_
        obtain ⟨t, ot, a, b, nt, rfl, hmt, hct, hdt, R''⟩ := R i v hPv
        have N₂ : News h₀ L h₂ ((D, lst (sel keep pick i)) :: news) := news_but N' hk₂ fun p hp => by
          rcases List.mem_cons.mp hp with rfl | hp
          · exact Ne.symm hDI
          · exact (offA p hp).1
        have ht : IsTup h₂ t #[a, b] := ⟨ot, (N₂ _ (List.mem_cons_of_mem _ hmt)).1, hct, nt, hdt⟩
        refine hgo (i + 1) _ _ _ _ hst₂ ?_
        refine assign_Tuple_tuple hh ht rfl rfl fun h₅ he => ?_
        have he' : ∀ b o, h₂.get? b = some o → h₅.get? b = some o := fun b o e => he b o (Nat.ne_of_lt (Heap.lt_size e)) e
        refine assignInOrder_cons (wpAny_assign_Name (wpAny_storeName_local (lookup_relabel_local hx) ((hn'.at' fun o e => hk₂ _ o (by simpa using Ne.symm hCI) e).at' fun o e => he' _ o e) (fun h₆ hn₆ hs₆ => ?_) (by simp [compEnvC, relabel, hkind])))
        refine assignInOrder_cons (wpAny_assign_Name (wpAny_storeName_local (lookup_relabel_local hx₂) hn₆ (fun h₃ hn₃ hs₃ => ?_) (by simp [compEnvC, relabel, hkind])))
        refine assignInOrder_nil ?_
        have old3 : ∀ b o, b ≠ C → h₂.get? b = some o → h₃.get? b = some o := fun b o hb e => hs₃.extBut b o hb (hs₆.extBut b o hb (he' b o e))
        have hst₃ : St (i + 1) h₃ := W.frame _ _ _ hst₂ fun b hb o e => old3 b o (fun q => hCf (by rw [← q]; exact hb)) e
        obtain ⟨oC, heC, hoC⟩ := ns_obj hn₃
        have F₃ : Fr h₀ L h₃ m := (((fr_but F' hk₂ hIL hI₀).keeps he').change hs₆ hCL hC₀).change hs₃ hCL hC₀
        have ND : News h₀ L h₃ ((D, lst (sel keep pick i)) :: news) := fun p hp => ⟨old3 _ _ (by
          rcases List.mem_cons.mp hp with rfl | hp
          · exact hDC
          · exact (offA p hp).2.1) (N₂ p hp).1, (N₂ p hp).2⟩
        have NC : News h₀ L h₃ ((C, oC) :: news) := fun p hp => by
          rcases List.mem_cons.mp hp with rfl | hp
          · exact ⟨heC, hCL, hC₀⟩
          · exact ND p (.tail _ hp)
        refine wpAny_mono (R'' C oC _ h₃ _ _ hoC (by simp [hxx]) (by simp) F₃ NC) (fun ok s₄ h₄ => ?_) fun _ _ e => e
        obtain ⟨rfl, ⟨tk₄, rfl⟩, h₄⟩ := h₄
        cases hkeep : keep i with
        | false =>
          rw [if_neg (by decide)]
          refine ⟨vs.length + 1 - (i + 1), by omega, h₃, tk₄, i + 1, _, rfl, hlt, rfl, hst₃, F₃, hn₃, ?_⟩
          rw [sel, hkeep, if_neg (by decide), List.append_nil]
          exact ND
        | true =>
          rw [if_pos rfl]
          refine wpAny_mono (h₄ hkeep) (fun y s₅ h₅ => ?_) fun _ _ e => e
          obtain ⟨rfl, tk₅, rfl⟩ := h₅
          refine append_at (hsz := by show (sel keep pick i).toArray.size ≤ sizeLine; rw [List.size_toArray]; exact Nat.le_trans (sel_length _ _ _) (Nat.le_trans hi hsz)) (ND _ (.head _)).1 fun h₆ hs₆ hD₆ => ?_
          refine ⟨vs.length + 1 - (i + 1), by omega, h₆, tk₅, i + 1, _, rfl, hlt, rfl, W.frame _ _ _ hst₃ fun b hb o e => hs₆.extBut b o (fun q => hDf (q ▸ hb)) e, F₃.change hs₆ hDL hD₀, hn₃.sameBut hs₆ (Ne.symm hDC), fun p hp => ?_⟩
          rcases List.mem_cons.mp hp with rfl | hp
          · rw [sel, hkeep, if_pos rfl]
            exact ⟨hD₆.trans (congrArg some (lst_snoc _ _)), hDL, hD₀⟩
          · exact ⟨hs₆.extBut _ _ (offA p hp).2.2 (ND p (.tail _ hp)).1, (ND p (.tail _ hp)).2⟩
      · obtain rfl : i = vs.length := Nat.le_antisymm hi (Nat.not_lt.mp hlt)
        refine W.done _ _ _ hst' fun h₂ tk₂ hk₂ => ?_
        exact hRR _ _ h₂ tk₂ _ (fr_but F' hk₂ hIL hI₀) (news_but N' hk₂ fun p hp => by
          rcases List.mem_cons.mp hp with rfl | hp
          · exact Ne.symm hDI
          · exact (offA p hp).1) off3.one (hn'.at' fun o e => hk₂ _ o (by simpa using Ne.symm hCI) e) hC₀ hD₀ hCL hDL (Ne.symm hDC) (fun p hp => (offA p hp).2.1)
    · rcases List.mem_cons.mp hp with rfl | hp
      · exact ⟨hacc, hDL, hD₀⟩
      · exact ⟨old _ _ (N p hp).1, (N p hp).2⟩
  exact codeAny_compStart_list (loop _ rfl) (W.self 0 _ _ _ (W.frame _ _ _ hst fun b _ o e => old b o e) (loop _ rfl))

/-- the source of such a comprehension: a list or a tuple of the ledger, all its turns told -/
def SrcPairs (prog : Program) (w : World) (A : Around) (h₀ : Heap) (L : Addr) (m : Str → Option Value) (env : Env) (elt : PySem.Expr) (ifs : List PySem.Expr) (x x₂ : Str) (scope : Scope) (cl : List (Str × Addr)) (Q : Value → Shared → Prop) (xv : Value) (s₁ : Shared) : Prop :=
  ∃ ax lo vs nn news keep pick, xv = .ref ax ∧ A.handled = none ∧ Fr h₀ L s₁.heap m ∧ News h₀ L s₁.heap news ∧ (ax, lo) ∈ news ∧ (lo.cls = .type "list" ∨ lo.cls = .type "tuple") ∧ lo.data = .seq (List.toArray vs) nn ∧ vs.length ≤ sizeLine ∧
    (∀ g i v, vs[i]? = some v → PairTurn prog w A h₀ L m env elt ifs x x₂ scope cl { s₁ with heap := g } news v (keep i) (pick i)) ∧
    ∀ D h' tk, Fr h₀ L h' m → News h₀ L h' ((D, lst (sel keep pick vs.length)) :: news) → Off1 D news → Q (.ref D) { s₁ with heap := h', toks := tk }

theorem comp_pairs {elt iter : PySem.Expr} {ifs : List PySem.Expr} {x x₂ : Str} {px px₂ tp : Pos} {tk} {scope : Scope} {cl : List (Str × Addr)} {pos : Pos} {Q : Value → Shared → Prop} (hF₀ : Fr h₀ L s.heap m)
    (hclos : closureFor scope env = pure cl) (hcell : ∀ y ∈ scope.names, y.2 ≠ .cell) (hkind : scope.kind = .function)
    (hnames : ∀ y ∈ scope.names, y.2 = .local → scope.names.lookup y.1 = some .local) (hx : scope.names.lookup x = some .local) (hx₂ : scope.names.lookup x₂ = some .local) (hxx : x ≠ x₂)
    (h : wpAny (model prog w) A (eval iter env) (SrcPairs prog w A h₀ L m env elt ifs x x₂ scope cl Q) E s)
    (hs : ∀ x, foldedSetIterable iter env x = pure x := by intro _; rfl) :
    wpAny (model prog w) A (eval (.ListComp elt [⟨.Tuple [.Name x px, .Name x₂ px₂] tk tp, iter, ifs, 0⟩] scope pos) env) Q E s := by
  rw [eval_ListComp]
  refine wpAny_comprehension_free (use := none) rfl hs hclos hkind hnames (wpAny_mono h (fun xv s₁ h₁ => ?_) fun _ _ e => e)
  obtain ⟨ax, lo, vs, nn, news, keep, pick, rfl, hh, F, N, hm, hc, hd, hsz, R, fin⟩ := h₁
  have hax := (N _ hm).1
  have hlt : ax < s₁.heap.objs.size := Heap.lt_size hax
  have hlen : vs.toArray.size = vs.length := by simp
  have hRR : ∀ (g : Heap) (I : Addr), ∀ D C h tk m', Fr h₀ L h m → News h₀ L h ((D, lst (sel keep pick vs.length)) :: news) → Off1 D news → h.Ns C m' → h₀.get? C = none → h₀.get? D = none → C ≠ L → D ≠ L → C ≠ D → (∀ p ∈ news, p.1 ≠ C) →
      compPost (model prog w) A E none Q (.ref D) C (.ok .next) { s₁ with heap := h, toks := tk } := by
    intro g I D C h tk m' F' N' o1 hn hC₀ hD₀ hCL hDL hCD offC
    refine ⟨m', hn, fun h'' hs'' => fin D h'' tk (F'.change hs'' hCL hC₀) (fun p hp => ?_) o1⟩
    refine ⟨hs''.extBut _ _ ?_ (N' p hp).1, (N' p hp).2⟩
    rcases List.mem_cons.mp hp with rfl | hp
    · exact Ne.symm hCD
    · exact offC p hp
  rcases hc with hc | hc
  · have hl : s₁.heap.IsList ax vs.toArray := ⟨lo, hax, hc, nn, hd⟩
    refine wpAny_pyIter_list hl ?_
    have up : ∀ b o, s₁.heap.get? b = some o → (s₁.heap.push { cls := .type "list_iterator", data := .fields #[.ref ax, .int 0 0] }).get? b = some o := fun b o e => Heap.get?_push_of_some _ e
    have W : Walks prog w A s₁.heap.objs.size [s₁.heap.objs.size, ax] [s₁.heap.objs.size] vs.length (fun i v => vs[i]? = some v) (fun i h => h.IsListIter s₁.heap.objs.size ax i ∧ h.IsList ax vs.toArray) := by
      have W := Walks.list (prog := prog) (w := w) hh s₁.heap.objs.size ax (Nat.ne_of_lt hlt) vs.toArray
      rw [hlen] at W
      simpa using W
    refine comp_block (s₂ := { s₁ with heap := s₁.heap.push { cls := .type "list_iterator", data := .fields #[.ref ax, .int 0 0] } }) (vs := vs) W (fun i v s Q E st q => letGo_listiter st.1 q) hsz hcell hkind hx hx₂ hxx hh ⟨⟨_, Heap.get?_push_size _ rfl, rfl, rfl⟩, hl.push _⟩ (fun b hb => ?_)
      (F.keeps up) (N.grown up) (Nat.ne_of_lt F.ns.lt) (next_is_new F) (fun p hp => Nat.ne_of_lt (Heap.lt_size (N p hp).1)) (R _) (hRR (s₁.heap.push { cls := .type "list_iterator", data := .fields #[.ref ax, .int 0 0] }) s₁.heap.objs.size)
    show b < (s₁.heap.push _).objs.size
    rw [Heap.size_push]
    rcases List.mem_cons.mp hb with rfl | hb
    · exact Nat.lt_succ_self _
    · rw [List.mem_singleton.mp hb]; exact Nat.lt_succ_of_lt hlt
  · have hl : s₁.heap.IsTuple ax vs.toArray := ⟨lo, hax, hc, nn, hd⟩
    refine wpAny_pyIter_tuple hl ?_
    have up : ∀ b o, s₁.heap.get? b = some o → (s₁.heap.push { cls := .type "tuple_iterator", data := .fields #[.ref ax, .int 0 0] }).get? b = some o := fun b o e => Heap.get?_push_of_some _ e
    have W : Walks prog w A s₁.heap.objs.size [s₁.heap.objs.size, ax] [s₁.heap.objs.size] vs.length (fun i v => vs[i]? = some v) (fun i h => h.IsTupleIter s₁.heap.objs.size ax i ∧ h.IsTuple ax vs.toArray) := by
      have W := Walks.tuple (prog := prog) (w := w) hh s₁.heap.objs.size ax (Nat.ne_of_lt hlt) vs.toArray
      rw [hlen] at W
      simpa using W
    refine comp_block (s₂ := { s₁ with heap := s₁.heap.push { cls := .type "tuple_iterator", data := .fields #[.ref ax, .int 0 0] } }) (vs := vs) W (fun i v s Q E st q => letGo_tupleiter st.1 q) hsz hcell hkind hx hx₂ hxx hh ⟨⟨_, Heap.get?_push_size _ rfl, rfl, rfl⟩, hl.push _⟩ (fun b hb => ?_)
      (F.keeps up) (N.grown up) (Nat.ne_of_lt F.ns.lt) (next_is_new F) (fun p hp => Nat.ne_of_lt (Heap.lt_size (N p hp).1)) (R _) (hRR (s₁.heap.push { cls := .type "tuple_iterator", data := .fields #[.ref ax, .int 0 0] }) s₁.heap.objs.size)
    show b < (s₁.heap.push _).objs.size
    rw [Heap.size_push]
    rcases List.mem_cons.mp hb with rfl | hb
    · exact Nat.lt_succ_self _
    · rw [List.mem_singleton.mp hb]; exact Nat.lt_succ_of_lt hlt
end
end Mine
/-! PL2 -/
namespace Mine
open PySem PySem.W PyProof.Rows PySem.Calls
section
variable {led : List (Addr × Obj)} {kvs : List (Str × Value)} {l : List (Str × Dat)}
theorem PairsD.put {x : Str} {v : Value} {d : Dat} (h : PairsD led kvs l) (hd : DatIn led v d) : PairsD led (kvs.map fun kv => if kv.1 = x then (kv.1, v) else kv) (l.map fun q => if q.1 = x then (q.1, d) else q) := by
  induction h with
  | nil => exact .nil
  | @cons y u e kvs l h _ ih =>
    rw [List.map_cons, List.map_cons]
    by_cases hy : y = x
    · simp only [hy, if_true]; exact .cons hd ih
    · simp only [hy, if_false]; exact .cons h ih
theorem stored_old {x : Str} {v : Value} (h : PairsD led kvs l) (hx : x ∈ l.map (·.1)) : stored kvs x v = kvs.map fun kv => if kv.1 = x then (kv.1, v) else kv := by
  unfold stored
  rw [if_pos]
  rw [List.any_eq_true]
  obtain ⟨kv, hkv, e⟩ := List.mem_map.mp (h.keys ▸ hx)
  exact ⟨kv, hkv, by simpa using e⟩
theorem lookD_nil (p : Str) : lookD [] p = .none := rfl
theorem lookD_snoc {left : List (Str × Dat)} {x : Str} {e : Dat} (hx : x ∉ left.map (·.1)) (p : Str) : lookD (left ++ [(x, e)]) p = if p = x then e else lookD left p := by
  unfold lookD
  rw [List.find?_append]
  by_cases hp : p = x
  · subst hp
    have : left.find? (fun kv => decide (kv.1 = p)) = none := by
      rw [List.find?_eq_none]
      intro kv hkv hq
      exact hx (List.mem_map.mpr ⟨kv, hkv, by simpa using hq⟩)
    rw [this]
    simp
  · have hp' : ¬ x = p := fun e => hp e.symm
    simp [hp, hp']
theorem PairsD.step {ps : List Str} {left : List (Str × Dat)} {x : Str} {v : Value} {e : Dat} (h : PairsD led kvs (ps.map fun p => (p, lookD left p))) (hps : x ∈ ps) (hx : x ∉ left.map (·.1)) (hd : DatIn led v e) :
    PairsD led (stored kvs x v) (ps.map fun p => (p, lookD (left ++ [(x, e)]) p)) := by
  rw [stored_old h (by simpa using hps)]
  have := h.put (x := x) hd
  rw [List.map_map] at this
  have e2 : (ps.map fun p => (p, lookD (left ++ [(x, e)]) p)) = ps.map ((fun q : Str × Dat => if q.1 = x then (q.1, e) else q) ∘ fun p => (p, lookD left p)) := List.map_congr_left fun p _ => by
    simp only [Function.comp, lookD_snoc hx]
    by_cases hp : p = x <;> simp [hp]
  rw [e2]
  exact this
theorem keys_tab {ps : List Str} {left : List (Str × Dat)} : (ps.map fun p => (p, lookD left p)).map (·.1) = ps := by
  rw [List.map_map]; exact List.map_id' ps
theorem keys_named {left : List (Str × Dat)} : (left.map fun q => (q.1, Dat.bool true)).map (·.1) = left.map (·.1) := by
  rw [List.map_map]; rfl
theorem none_pairs (led : List (Addr × Obj)) (ps : List Str) : PairsD led (ps.map fun p => (p, Value.none)) (ps.map fun p => (p, lookD [] p)) := by
  induction ps with
  | nil => exact .nil
  | cons p ps ih => exact .cons .none ih
theorem none_fresh {ps : List Str} (hnd : ps.Nodup) {i : Nat} (hi : i < ps.length) : stored ((ps.take i).map fun p => (p, Value.none)) ps[i] Value.none = (ps.take (i + 1)).map fun p => (p, Value.none) := by
  rw [stored_new (none_pairs [] (ps.take i))]
  · rw [List.take_add_one, List.getElem?_eq_getElem hi, List.map_append]; rfl
  · rw [keys_tab]
    intro h
    have e : ps = ps.take i ++ ps[i] :: ps.drop (i + 1) := by
      have := List.take_append_drop i ps
      rw [List.drop_eq_getElem_cons hi] at this
      exact this.symm
    rw [e] at hnd
    exact (List.nodup_append.mp hnd).2.2 _ h _ (.head _) rfl
end
end Mine
/-! C4 -/
namespace Mine
open PySem PySem.W PyProof.Rows PySem.Calls
local macro_rules | `(tactic| walk_at "call builtin:len") => `(tactic| (k_here; (with_reducible show wpAny _ _ (call (Value.builtin "len") [Value.ref _]) _ _ _); k_dflt (first
  | (refine' tup_len ?k1 ?k2 ?k3 ?k4 ?_; (case k1 => k_asm); (case k2 => k_mem); (case k3 => assumption); (case k4 => omega); k_whole)
  | (refine' tup_lenS ?k1 ?k2 ?k3 ?k4 ?_; (case k1 => k_asm); (case k2 => k_mem); (case k3 => assumption); (case k4 => omega); k_whole)
  | (refine' lst_lenS ?k1 ?k2 ?k3 ?k4 ?_; (case k1 => k_asm); (case k2 => k_mem); (case k3 => assumption); (case k4 => omega); k_whole))))
local macro_rules | `(tactic| walk_at "call type:range") => `(tactic| (k_here; (rename Fr _ _ _ _ => F'); (rename News _ _ _ _ => N'); (with_unfolding_all refine range1_rows F' N' ?_; intro _ _ _ _ _ _ _ _ _)))
local macro_rules | `(tactic| walk_at "subscriptTail") => `(tactic| (k_here; (with_reducible show wpAny _ _ (subscriptTail _ _ (Value.ref _) (Value.int _ _)) _ _ _); (with_unfolding_all first
  | (refine' tup_at ?k1 ?k2 ?k3 ?k4 ?k5 ?_ ?k6; (case k1 => k_asm); (case k2 => k_mem); (case k4 => first | assumption | exact rfl); (case k3 => omega); (case k5 => omega); (case k6 => with_unfolding_all rfl); k_whole)
  | (refine' lst_at ?k1 ?k2 ?k3 ?k4 ?k5 ?_ ?k6; (case k1 => k_asm); (case k2 => k_mem); (case k4 => first | assumption | exact rfl); (case k3 => omega); (case k5 => omega); (case k6 => with_unfolding_all rfl); k_whole))))
local macro_rules | `(tactic| walk_at "subscriptTail") => `(tactic| (k_here; (with_reducible show wpAny _ _ (subscriptTail _ _ (Value.ref _) (Value.str _ _)) _ _ _); k_dflt (refine' dict_item ?k1 ?k2 ?k3 ?k5 ?_ ?k6 ?k7; (case k1 => k_asm); (case k2 => k_mem); (case k3 => assumption); (case k5 => assumption); (case k6 => with_unfolding_all rfl); (case k7 => (intro _; with_unfolding_all rfl)); k_whole)))
local macro_rules | `(tactic| walk_at "compareOp NotIn str ref") => `(tactic| (k_here; (with_reducible show wpAny _ _ (compareOp CmpOp.NotIn (Value.str _ _) (Value.ref _)) _ _ _); k_dflt (first
  | (refine' dict_notIn ?k1 ?k2 ?k3 ?k4 ?k5 ?k6 ?_; (case k1 => k_asm); (case k2 => k_mem); (case k3 => assumption); (case k4 => assumption); (case k5 => assumption); (case k6 => assumption); k_whole)
  | (refine' notIn_yes ?k1 ?k2 ?k3 ?k4 ?k5 ?k6 ?_; (case k1 => k_asm); (case k2 => k_mem); (case k3 => assumption); (case k4 => assumption); (case k5 => assumption); (case k6 => ktr_units); k_whole)
  | (refine' notIn_no ?k1 ?k2 ?k3 ?k4 ?k5 ?k7 ?k6 ?_; (case k1 => k_asm); (case k2 => k_mem); (case k3 => assumption); (case k4 => assumption); (case k5 => assumption); (case k7 => assumption); (case k6 => ktr_units); k_whole))))
local macro_rules | `(tactic| walk_at "compareOp In str ref") => `(tactic| (k_here; (with_reducible show wpAny _ _ (compareOp CmpOp.In (Value.str _ _) (Value.ref _)) _ _ _); k_dflt (refine' dict_in ?k1 ?k2 ?k3 ?k4 ?k5 ?k6 ?_; (case k1 => k_asm); (case k2 => k_mem); (case k3 => assumption); (case k4 => assumption); (case k5 => assumption); (case k6 => assumption); k_whole)))
local macro_rules | `(tactic| walk_at "setItem ref str") => `(tactic| (k_here; k_dflt (refine' dict_set ?k1 ?k2 ?k3 ?k4 ?k5 ?_; (case k1 => k_asm); (case k2 => k_asm); (case k3 => k_updF); (case k4 => assumption); (case k5 => omega); k_whole); intro h' o' F' N' hd'; (try dsimp only at N')))

theorem due_ct {w : World} {mean : ExcName → Option Value} {mg mb : Str → Option Value} {dp un : Nat} {gd : Option (List Code)} {cn : Str} {cs : Scope} {a : Addr} {ccd : Value} {cl : List (Str × Addr)} {outer : List Env} {A₀ : Around} {base h₀ : Heap} {L : Addr} {m : Str → Option Value}
    {s : Shared} {lp lc : Addr} {vp vc : List Value} {ps : List Str} {ds : List Dat} {np nc : Nat} {news : List (Addr × Obj)} {Q E : Value → Shared → Prop}
    (B : Below A₀ base outer h₀) (F : Fr h₀ L s.heap m) (X : Frag.In (hd.heap_39 w.params) h₀) (N : News h₀ L s.heap news) (hp : (lp, listOf vp.toArray np) ∈ news) (hS : StrsD vp ps) (hps : ps.length ≤ 4) (hok : ∀ p ∈ ps, PyData.strOk p = true)
    (hc : (lc, tupOf vc nc) ∈ news) (hD : DatAll news vc ds) (hC : ∀ d ∈ ds, ConnD NM 3 "s" d) (hd5 : ds.length ≤ 5)
    (T : Top hd.view_39 LO mean mg mb h₀) (hk : cs.kind = .function) (hd : dp + 5 < recursionLimit) (hu : un + 600 < cLine)
    (ret : ∀ v tl h' tk', Fr h₀ L h' m → News h₀ L h' (tl ++ news) → (∀ p ∈ tl, ∀ q ∈ news, p.1 ≠ q.1) → DatIn (tl ++ news) v (resD ps (runC ps 0 ds [])) → Q v { s with heap := h', toks := tk' }) :
    wpAny (model PG w) (ktrTop dp un gd cn cs L a ccd cl outer) (call (.ref 106) [.ref lp, .ref lc]) Q E s := by
  k_with_none
  w_top off
  (k_with "pyIter ref" => (fail "by hand"))
  refine wpAny_call ?_
  k_dflt (refine' code_defC ?k1 ?k2 ?k3 ?k4 ?k5 ?kA ?kF ?kK ?k6 ?k7 ?k8 ?k9 ?kB ?kD ?_ ?c2 ?c3 ?c4; (case kA => exact rfl); (case kF => exact rfl); (case kK => assumption); (case k1 => k_asm); (case k2 => k_asm); (case k3 => k_asm); (case k4 => k_asm); (case k5 => k_asm); (case k6 => k_is); (case k7 => k_is); (case k8 => ktr_room); (case k9 => exact BindsTo.of_eq rfl); (case kB => exact rfl); (case kD => decide +kernel); (case c2 => exact rfl); (case c3 => exact rfl); (case c4 => exact rfl); k_whole; intro g' L' h' tk' cells' FG' F' N' Y' B' X' T' l1; k_cells Y'; (try simp only [List.cons_append, List.nil_append] at N'); (try dsimp only); (try k_fold))
  have hOc : OwnOff news [L' + 1] := fun p hp b hb => by
    rw [List.mem_singleton.mp hb]
    exact Nat.ne_of_lt (Nat.lt_succ_of_lt (l1 p hp))
  have hMk := kstMark
  have hMk2 := kdMark
  (repeat' ((fail_if_success (with_reducible show wpAny _ _ (pyIter _) _ _ _)); (first | (k_unfold; (try dsimp only)) | (k_end; wrow_close) | walk1 | (dsimp only; walk1) | (leave1; walk_say "STEP leave1"; try dsimp only) | fail "no step")))
  rename_i _ _ d9 _ o9 lo9 hDict9 _ _ _ l9 _ oc9 _ _ dc9 h9 _ _ _ _ hr9 F9 N9 _
  have hODict : OwnOff news [d9] := fun p hp b hb => by
    rw [List.mem_singleton.mp hb]
    exact Nat.ne_of_lt (tb_ltOf l9.2 p hp)
  refine' kd_range (x := "spot") (fun c : Obj × List (Str × Value) × List (Str × Dat) => [(d9, c.1)]) ((L' + 1, oc9) :: news) (fun _ => []) (fun led c => c.1.IsDictOf (PySem.strKind PG w) c.2.1 ∧ PairsD led c.2.1 c.2.2) ["name"]
    (fun pre c => c.2.2.length ≤ pre.length ∧ runC ps pre.length (ds.drop pre.length) c.2.2 = runC ps 0 ds []) (d9 :: (L' + 1) :: news.map (·.1)) (o9, [], []) rfl hr9 (small_one (by omega) (by omega) (by omega) (by omega)) (rangeSize_nat _ _) F9 N9 ?ki ?ka ?kf ?kk ?kp ?turn ?done
  case ki => intro p hp; simpa using hp
  case ka => intro c; rfl
  case kf => exact ⟨hDict9, .nil⟩
  case kk => intro p hp; nomatch hp
  case kp => exact ⟨Nat.le_refl _, rfl⟩
  case turn =>
    clear hr9 F9 N9
    rintro ⟨o1, kvs, left⟩ tl pre k t u h tk own hkeq hlt hsep hoff ⟨hfd, hfp⟩ ⟨hlen, hrun⟩ F1 N1
    dsimp only [kstB] at F1 hfd hfp hlen hrun
    simp only [List.cons_append, List.nil_append] at N1
    have hi : pre.length < ds.length := by omega
    obtain ⟨v, hv, hDv⟩ := hD.get hi
    have hCd := hC _ (List.getElem_mem hi)
    have hdrop := List.drop_eq_getElem_cons hi
    generalize ds[pre.length] = d at hDv hCd hdrop
    rw [hdrop] at hrun
    obtain ⟨a1, vn, ve, nn, rfl, hm1, hE, hcase⟩ := connD_open hDv hCd
    have hk0 : k.toNat = pre.length := by omega
    have hv' : vc[k.toNat]? = some (.ref a1) := by rw [hk0]; exact hv
    have hkvs := hfp.length
    rcases hcase with ⟨rfl, hnm⟩ | ⟨x, tx, rfl, hxN, hnm⟩
    · by_cases hpl : pre.length < ps.length
      · obtain ⟨tx, hx'⟩ := hS.get hpl
        have hpick : pick ps pre.length d = some ps[pre.length] := by rw [pick_none hnm]; exact List.getElem?_eq_getElem hpl
        have hxps : ps[pre.length] ∈ ps := List.getElem_mem hpl
        generalize ps[pre.length] = x at hx' hpick hxps
        have hvx : vp[k.toNat]? = some (.str x tx) := by rw [hk0]; exact hx'
        have hkI : k < (ps.length : Int) := by omega
        by_cases hxl : x ∈ left.map (·.1)
        · have hdx : decide (x ∈ left.map (·.1)) = true := decide_eq_true hxl
          have hres : runC ps 0 ds [] = .error "port_connected_twice" := by rw [← hrun, runC_twice hpick hxps hxl]
          (repeat' ((fail_if_success (with_reducible show InvEndG _ _ _ _ _ _)); (fail_if_success (show Q _ _)); (fail_if_success (with_reducible show wpAny _ _ (eval (Expr.ListComp _ _ _ _) _) _ _ _)); (fail_if_success (with_reducible show LCg.CompEnd _ _ _ _ _ _ _ _ _ _ _ _ _ _)); (first | (k_unfold; (try dsimp only)) | (k_end; wrow_close) | walk1 | (dsimp only; walk1) | (leave1; walk_say "STEP leave1"; try dsimp only) | fail "no step")))
          rename News h₀ L _ _ => kN
          rename News g' L' _ ((d9, o1) :: _) => kP
          exact ret _ _ _ _ (by assumption) (fin1 kN) (off_size kP) (err_in hres (.head _))
        · have hdx : decide (x ∈ left.map (·.1)) = false := decide_eq_false hxl
          (repeat' ((fail_if_success (with_reducible show InvEndG _ _ _ _ _ _)); (fail_if_success (show Q _ _)); (fail_if_success (with_reducible show wpAny _ _ (eval (Expr.ListComp _ _ _ _) _) _ _ _)); (fail_if_success (with_reducible show LCg.CompEnd _ _ _ _ _ _ _ _ _ _ _ _ _ _)); (first | (k_unfold; (try dsimp only)) | (k_end; wrow_close) | walk1 | (dsimp only; walk1) | (leave1; walk_say "STEP leave1"; try dsimp only) | fail "no step")))
          rename Obj.IsDictOf _ _ (stored _ _ _) => hd9
          rw [stored_new hfp hxl] at hd9
          rename News g' L' _ _ => kN
          refine kd_end (_, kvs ++ [(x, ve)], left ++ [(x, cnE d)]) [] hsep (by assumption) kN ?hn ?ho rfl (fun _ h => nomatch h) (fun _ h => nomatch h) (fun _ h => nomatch h) ?hr ⟨hd9, ?hf⟩ ⟨?hp1, ?hp2⟩
          case hn => intro p hp; simp only [List.mem_append, List.mem_cons, List.nil_append, List.cons_append, List.not_mem_nil, or_false] at hp ⊢; rcases hp with h | h | h | h <;> simp [h]
          case ho => intro p hp; simp [hp]
          case hr => kst_same
          case hf => exact hfp.snoc (hE.mono fun p hp => .tail _ (List.mem_append.mpr (.inl hp)))
          case hp1 => simp only [List.length_append, List.length_cons, List.length_nil]; omega
          case hp2 => rw [← hrun, runC_go hpick hxps hxl, List.length_append, List.length_cons, List.length_nil]
      · have hkI : ¬ k < (ps.length : Int) := by omega
        have hres : runC ps 0 ds [] = .error "too_many_ports" := by rw [← hrun, runC_none (by rw [pick_none hnm]; exact List.getElem?_eq_none (by omega))]
        (repeat' ((fail_if_success (with_reducible show InvEndG _ _ _ _ _ _)); (fail_if_success (show Q _ _)); (fail_if_success (with_reducible show wpAny _ _ (eval (Expr.ListComp _ _ _ _) _) _ _ _)); (fail_if_success (with_reducible show LCg.CompEnd _ _ _ _ _ _ _ _ _ _ _ _ _ _)); (first | (k_unfold; (try dsimp only)) | (k_end; wrow_close) | walk1 | (dsimp only; walk1) | (leave1; walk_say "STEP leave1"; try dsimp only) | fail "no step")))
        rename News h₀ L _ _ => kN
        rename News g' L' _ ((d9, o1) :: _) => kP
        exact ret _ _ _ _ (by assumption) (fin1 kN) (off_size kP) (err_in hres (.head _))
    · have hpick : pick ps pre.length d = some x := pick_some hnm
      have hxo := nm_ok x hxN
      by_cases hxps : x ∈ ps
      · by_cases hxl : x ∈ left.map (·.1)
        · have hdx : decide (x ∈ left.map (·.1)) = true := decide_eq_true hxl
          have hres : runC ps 0 ds [] = .error "port_connected_twice" := by rw [← hrun, runC_twice hpick hxps hxl]
          (repeat' ((fail_if_success (with_reducible show InvEndG _ _ _ _ _ _)); (fail_if_success (show Q _ _)); (fail_if_success (with_reducible show wpAny _ _ (eval (Expr.ListComp _ _ _ _) _) _ _ _)); (fail_if_success (with_reducible show LCg.CompEnd _ _ _ _ _ _ _ _ _ _ _ _ _ _)); (first | (k_unfold; (try dsimp only)) | (k_end; wrow_close) | walk1 | (dsimp only; walk1) | (leave1; walk_say "STEP leave1"; try dsimp only) | fail "no step")))
          rename News h₀ L _ _ => kN
          rename News g' L' _ ((d9, o1) :: _) => kP
          exact ret _ _ _ _ (by assumption) (fin1 kN) (off_size kP) (err_in hres (.head _))
        · have hdx : decide (x ∈ left.map (·.1)) = false := decide_eq_false hxl
          (repeat' ((fail_if_success (with_reducible show InvEndG _ _ _ _ _ _)); (fail_if_success (show Q _ _)); (fail_if_success (with_reducible show wpAny _ _ (eval (Expr.ListComp _ _ _ _) _) _ _ _)); (fail_if_success (with_reducible show LCg.CompEnd _ _ _ _ _ _ _ _ _ _ _ _ _ _)); (first | (k_unfold; (try dsimp only)) | (k_end; wrow_close) | walk1 | (dsimp only; walk1) | (leave1; walk_say "STEP leave1"; try dsimp only) | fail "no step")))
          rename Obj.IsDictOf _ _ (stored _ _ _) => hd9
          rw [stored_new hfp hxl] at hd9
          rename News g' L' _ _ => kN
          refine kd_end (_, kvs ++ [(x, ve)], left ++ [(x, cnE d)]) [] hsep (by assumption) kN ?hn ?ho rfl (fun _ h => nomatch h) (fun _ h => nomatch h) (fun _ h => nomatch h) ?hr ⟨hd9, ?hf⟩ ⟨?hp1, ?hp2⟩
          case hn => intro p hp; simp only [List.mem_append, List.mem_cons, List.nil_append, List.cons_append, List.not_mem_nil, or_false] at hp ⊢; rcases hp with h | h | h | h <;> simp [h]
          case ho => intro p hp; simp [hp]
          case hr => kst_same
          case hf => exact hfp.snoc (hE.mono fun p hp => .tail _ (List.mem_append.mpr (.inl hp)))
          case hp1 => simp only [List.length_append, List.length_cons, List.length_nil]; omega
          case hp2 => rw [← hrun, runC_go hpick hxps hxl, List.length_append, List.length_cons, List.length_nil]
      · have hres : runC ps 0 ds [] = .error "unknown_port" := by rw [← hrun, runC_unk hpick hxps]
        (repeat' ((fail_if_success (with_reducible show InvEndG _ _ _ _ _ _)); (fail_if_success (show Q _ _)); (fail_if_success (with_reducible show wpAny _ _ (eval (Expr.ListComp _ _ _ _) _) _ _ _)); (fail_if_success (with_reducible show LCg.CompEnd _ _ _ _ _ _ _ _ _ _ _ _ _ _)); (first | (k_unfold; (try dsimp only)) | (k_end; wrow_close) | walk1 | (dsimp only; walk1) | (leave1; walk_say "STEP leave1"; try dsimp only) | fail "no step")))
        rename News h₀ L _ _ => kN
        rename News g' L' _ ((d9, o1) :: _) => kP
        exact ret _ _ _ _ (by assumption) (fin1 kN) (off_size kP) (err_in hres (.head _))
  case done =>
    clear hr9 F9 N9
    rintro ⟨o1, kvs, left⟩ tl u h tk hoff ⟨hfd, hfp⟩ ⟨hlen, hrun⟩ F1 N1
    dsimp only [kstB] at F1 hfd hfp hlen hrun
    simp only [List.cons_append, List.nil_append] at N1
    rw [rangeKs_length, show (↑ds.length - (0 : Int)).toNat = ds.length by omega, List.drop_length] at hrun
    rw [runC] at hrun
    (repeat' ((fail_if_success (with_reducible show InvEndG _ _ _ _ _ _)); (fail_if_success (show Q _ _)); (fail_if_success (with_reducible show wpAny _ _ (eval (Expr.ListComp _ _ _ _) _) _ _ _)); (fail_if_success (with_reducible show LCg.CompEnd _ _ _ _ _ _ _ _ _ _ _ _ _ _)); (first | (k_unfold; (try dsimp only)) | (k_end; wrow_close) | walk1 | (dsimp only; walk1) | (leave1; walk_say "STEP leave1"; try dsimp only) | fail "no step")))
    k_dflt (refine LCg.ListComp_U (F₀ := by k_asm) (by rfl) (by decide) (by rfl) (by decide) (by rfl) ?_)
    walk1
    have hbase : ∀ p ∈ news, p ∈ (d9, o1) :: (L' + 1, oc9) :: (news ++ tl) := fun p hp => .tail _ (.tail _ (List.mem_append.mpr (.inl hp)))
    refine LCg.CompSrc.ledger (by rfl) (by k_asm) (by k_asm) (hbase _ hp) (by rw [sizeLine_eq]; have := hS.length; simp; omega) ?_
    intro g9
    refine comp_ind (Inv := fun i ys nws => (∀ p ∈ (d9, o1) :: (L' + 1, oc9) :: (news ++ tl), p ∈ nws) ∧ DatAll nws ys ((ps.take i).map fun p => .tuple [.str p, lookD left p]) ∧ (∀ p ∈ nws, p ∈ (d9, o1) :: (L' + 1, oc9) :: (news ++ tl) ∨ ∀ q ∈ news, p.1 ≠ q.1)) ?cturn ?cfin _ _ _ _ (Nat.zero_add _) ⟨fun _ h => h, .nil, fun _ h => .inl h⟩
    case cturn =>
      rintro i ys nws v I oI C oC D m₂ h2 tk2 E' hi ⟨hb, hDA, hfr⟩ hv hNs hx2 F2 N2 hoff2 hne2
      have hips : i < ps.length := by have := hS.length; simp at hi; omega
      obtain ⟨tx, hx'⟩ := hS.get hips
      simp only [List.getElem?_toArray] at hv
      rw [hx'] at hv
      obtain rfl := Option.some.inj hv
      have hmd : (d9, o1) ∈ nws := hb _ (.head _)
      have hmc : (L' + 1, oc9) ∈ nws := hb _ (.tail _ (.head _))
      have hsrc : LCg.SrcAt g' lp vp.toArray nws := .inr ⟨_, hb _ (hbase _ hp), rfl, _, rfl⟩
      have htk : ps.take (i + 1) = ps.take i ++ [ps[i]] := by rw [List.take_add_one, List.getElem?_eq_getElem hips]; rfl
      have hfr' : ∀ o, ∀ p ∈ (h2.objs.size, o) :: nws, p ∈ (d9, o1) :: (L' + 1, oc9) :: (news ++ tl) ∨ ∀ q ∈ news, p.1 ≠ q.1 := fun o p hp => by
        rcases List.mem_cons.mp hp with rfl | hp
        · exact .inr (off_new N2 fun q hq => hb _ (hbase q hq))
        · exact hfr p hp
      by_cases hxl : ps[i] ∈ left.map (·.1)
      · have hdx : decide (ps[i] ∈ left.map (·.1)) = true := decide_eq_true hxl
        obtain ⟨ve, hve, hDe⟩ := hfp.at_some hxl
        (repeat' ((fail_if_success (with_reducible show InvEndG _ _ _ _ _ _)); (fail_if_success (show Q _ _)); (fail_if_success (with_reducible show wpAny _ _ (eval (Expr.ListComp _ _ _ _) _) _ _ _)); (fail_if_success (with_reducible show LCg.CompEnd _ _ _ _ _ _ _ _ _ _ _ _ _ _)); (first | (k_unfold; (try dsimp only)) | (k_end; wrow_close) | walk1 | (dsimp only; walk1) | (leave1; walk_say "STEP leave1"; try dsimp only) | fail "no step")))
        rename News _ _ _ (_ :: (I, oI) :: _) => kN
        rename News _ _ h2 _ => kN2
        refine comp_fin (by assumption) kN kN2 hoff2 hsrc ⟨fun p hp => .tail _ (hb p hp), ?_, hfr' _⟩
        rw [htk, List.map_append]
        exact (hDA.mono fun p hp => .tail _ hp).append (.one (.tuple (.head _) (.cons (.str _ _) (.cons (hDe.mono fun p hp => .tail _ (hb p (.tail _ hp))) .nil))))
      · have hdx : decide (ps[i] ∈ left.map (·.1)) = false := decide_eq_false hxl
        (repeat' ((fail_if_success (with_reducible show InvEndG _ _ _ _ _ _)); (fail_if_success (show Q _ _)); (fail_if_success (with_reducible show wpAny _ _ (eval (Expr.ListComp _ _ _ _) _) _ _ _)); (fail_if_success (with_reducible show LCg.CompEnd _ _ _ _ _ _ _ _ _ _ _ _ _ _)); (first | (k_unfold; (try dsimp only)) | (k_end; wrow_close) | walk1 | (dsimp only; walk1) | (leave1; walk_say "STEP leave1"; try dsimp only) | fail "no step")))
        rename News _ _ _ (_ :: (I, oI) :: _) => kN
        rename News _ _ h2 _ => kN2
        refine comp_fin (by assumption) kN kN2 hoff2 hsrc ⟨fun p hp => .tail _ (hb p hp), ?_, hfr' _⟩
        rw [htk, List.map_append]
        exact (hDA.mono fun p hp => .tail _ hp).append (.one (.tuple (.head _) (.cons (.str _ _) (.cons (by rw [lookD_none hxl]; exact .none) .nil))))
    case cfin =>
      rintro ys nws ⟨hb, hDA, hfr⟩
      (repeat' ((fail_if_success (with_reducible show InvEndG _ _ _ _ _ _)); (fail_if_success (show Q _ _)); (fail_if_success (with_reducible show wpAny _ _ (eval (Expr.ListComp _ _ _ _) _) _ _ _)); (fail_if_success (with_reducible show LCg.CompEnd _ _ _ _ _ _ _ _ _ _ _ _ _ _)); (first | (k_unfold; (try dsimp only)) | (k_end; wrow_close) | walk1 | (dsimp only; walk1) | (leave1; walk_say "STEP leave1"; try dsimp only) | fail "no step")))
      rename News h₀ L _ _ => kN
      rename LCg.Off1 _ _ => hO1
      have hfr2 : ∀ p ∈ nws, p ∈ news ∨ ∀ q ∈ news, p.1 ≠ q.1 := fun p hp => by
        rcases hfr p hp with h | h
        · rcases List.mem_cons.mp h with rfl | h
          · exact .inr fun q hq e => hODict q hq d9 (List.mem_singleton.mpr rfl) e.symm
          · rcases List.mem_cons.mp h with rfl | h
            · exact .inr fun q hq e => hOc q hq (L' + 1) (List.mem_singleton.mpr rfl) e.symm
            · rcases List.mem_append.mp h with h | h
              · exact .inl h
              · exact .inr fun q hq e => hoff p h q.1 (.tail _ (.tail _ (List.mem_map.mpr ⟨q, hq, rfl⟩))) e
        · exact .inr h
      obtain ⟨tl', ht1, ht2⟩ := split_off hfr2
      have hnn : ∀ q ∈ news, q ∈ nws := fun q hq => hb q (hbase q hq)
      refine ret _ _ _ _ (by assumption) (due_fin kN ht2 hnn) (due_off hO1 ht2 hnn) ?_
      · rw [← hrun]
        have hsz : ps.take vp.toArray.size = ps := by rw [List.size_toArray, hS.length, List.take_length]
        rw [hsz] at hDA
        exact .list (.head _) (hDA.mono fun p hp => .tail _ (ht1 p hp))
end Mine
/-! C5 -/
namespace Mine
open PySem PySem.W PyProof.Rows PySem.Calls
local macro_rules | `(tactic| walk_at "call builtin:len") => `(tactic| (k_here; (with_reducible show wpAny _ _ (call (Value.builtin "len") [Value.ref _]) _ _ _); k_dflt (first
  | (refine' tup_len ?k1 ?k2 ?k3 ?k4 ?_; (case k1 => k_asm); (case k2 => k_mem); (case k3 => assumption); (case k4 => omega); k_whole)
  | (refine' tup_lenS ?k1 ?k2 ?k3 ?k4 ?_; (case k1 => k_asm); (case k2 => k_mem); (case k3 => assumption); (case k4 => omega); k_whole)
  | (refine' lst_lenS ?k1 ?k2 ?k3 ?k4 ?_; (case k1 => k_asm); (case k2 => k_mem); (case k3 => assumption); (case k4 => omega); k_whole))))
local macro_rules | `(tactic| walk_at "call type:range") => `(tactic| (k_here; (rename Fr _ _ _ _ => F'); (rename News _ _ _ _ => N'); (with_unfolding_all refine range1_rows F' N' ?_; intro _ _ _ _ _ _ _ _ _)))
local macro_rules | `(tactic| walk_at "subscriptTail") => `(tactic| (k_here; (with_reducible show wpAny _ _ (subscriptTail _ _ (Value.ref _) (Value.int _ _)) _ _ _); (with_unfolding_all first
  | (refine' tup_at ?k1 ?k2 ?k3 ?k4 ?k5 ?_ ?k6; (case k1 => k_asm); (case k2 => k_mem); (case k4 => first | assumption | exact rfl); (case k3 => omega); (case k5 => omega); (case k6 => with_unfolding_all rfl); k_whole)
  | (refine' lst_at ?k1 ?k2 ?k3 ?k4 ?k5 ?_ ?k6; (case k1 => k_asm); (case k2 => k_mem); (case k4 => first | assumption | exact rfl); (case k3 => omega); (case k5 => omega); (case k6 => with_unfolding_all rfl); k_whole))))
local macro_rules | `(tactic| walk_at "subscriptTail") => `(tactic| (k_here; (with_reducible show wpAny _ _ (subscriptTail _ _ (Value.ref _) (Value.str _ _)) _ _ _); k_dflt (refine' dict_item ?k1 ?k2 ?k3 ?k5 ?_ ?k6 ?k7; (case k1 => k_asm); (case k2 => k_mem); (case k3 => assumption); (case k5 => assumption); (case k6 => with_unfolding_all rfl); (case k7 => (intro _; with_unfolding_all rfl)); k_whole)))
local macro_rules | `(tactic| walk_at "compareOp NotIn str ref") => `(tactic| (k_here; (with_reducible show wpAny _ _ (compareOp CmpOp.NotIn (Value.str _ _) (Value.ref _)) _ _ _); k_dflt (first
  | (refine' dict_notIn ?k1 ?k2 ?k3 ?k4 ?k5 ?k6 ?_; (case k1 => k_asm); (case k2 => k_mem); (case k3 => assumption); (case k4 => assumption); (case k5 => assumption); (case k6 => assumption); k_whole)
  | (refine' notIn_yes ?k1 ?k2 ?k3 ?k4 ?k5 ?k6 ?_; (case k1 => k_asm); (case k2 => k_mem); (case k3 => assumption); (case k4 => assumption); (case k5 => assumption); (case k6 => ktr_units); k_whole)
  | (refine' notIn_no ?k1 ?k2 ?k3 ?k4 ?k5 ?k7 ?k6 ?_; (case k1 => k_asm); (case k2 => k_mem); (case k3 => assumption); (case k4 => assumption); (case k5 => assumption); (case k7 => assumption); (case k6 => ktr_units); k_whole))))
local macro_rules | `(tactic| walk_at "compareOp In str ref") => `(tactic| (k_here; (with_reducible show wpAny _ _ (compareOp CmpOp.In (Value.str _ _) (Value.ref _)) _ _ _); k_dflt (refine' dict_in ?k1 ?k2 ?k3 ?k4 ?k5 ?k6 ?_; (case k1 => k_asm); (case k2 => k_mem); (case k3 => assumption); (case k4 => assumption); (case k5 => assumption); (case k6 => assumption); k_whole)))
local macro_rules | `(tactic| walk_at "setItem ref str") => `(tactic| (k_here; k_dflt (refine' dict_set ?k1 ?k2 ?k3 ?k4 ?k5 ?_; (case k1 => k_asm); (case k2 => k_asm); (case k3 => k_updF); (case k4 => assumption); (case k5 => omega); k_whole); intro h' o' F' N' hd'; (try dsimp only at N')))

local macro_rules | `(tactic| walk_at "exec Raise some none") => `(tactic| (k_here; (with_reducible show wpAny _ _ (exec (Stmt.Raise (some (Expr.Call (Expr.Name _ _) _ [] _)) none _) _) _ _ _); k_dflt (refine' Raise_D (C := 45) ?hh ?_; (case hh => exact rfl); k_whole)))
local macro_rules | `(tactic| walk_at "call ref") => `(tactic| (k_here; k_dflt (first
  | (refine' design_new2 ?B ?F ?X ?N ?T ?hA ?hf ?hke ?hr ?_; (case B => k_asm); (case F => k_asm); (case X => k_asm); (case N => k_asm); (case T => k_asm); (case hA => exact rfl); (case hf => exact rfl); (case hke => exact rfl); (case hr => ktr_room); k_whole; intro x' t' d' es' n' h' tk' F' N' O' hk1' hk2'; refine raise_fin (by k_asm) (by assumption) (by assumption) ?_)
  | (refine' design_new3 ?B ?F ?X ?N ?T ?hA ?hf ?hke ?hr ?_; (case B => k_asm); (case F => k_asm); (case X => k_asm); (case N => k_asm); (case T => k_asm); (case hA => exact rfl); (case hf => exact rfl); (case hke => exact rfl); (case hr => ktr_room); k_whole; intro x' t' d' es' n' h' tk' F' N' O' hk1' hk2'; refine raise_fin (by k_asm) (by assumption) (by assumption) ?_))))

local macro_rules | `(tactic| walk_at "exec For Name Name cons nil") => `(tactic| (k_here; (rename Fr _ _ _ _ => lF'); (with_unfolding_all refine' For_turns lF' ?_; k_whole)))
theorem match_ct {w : World} {mean : ExcName → Option Value} {mg mb : Str → Option Value} {dp un : Nat} {gd : Option (List Code)} {cn : Str} {cs : Scope} {a : Addr} {ccd : Value} {cl : List (Str × Addr)} {outer : List Env} {A₀ : Around} {base h₀ : Heap} {L : Addr} {m : Str → Option Value}
    {s : Shared} {lp lc : Addr} {vp vc : List Value} {ps : List Str} {ds : List Dat} {np nc : Nat} {ta : Tok} {news : List (Addr × Obj)} {Q E : Value → Shared → Prop}
    (B : Below A₀ base outer h₀) (F : Fr h₀ L s.heap m) (X : Frag.In (hd.heap_39 w.params) h₀) (N : News h₀ L s.heap news) (hp : (lp, tupOf vp np) ∈ news) (hS : StrsD vp ps) (hps : ps.length ≤ 4) (hok : ∀ p ∈ ps, PyData.strOk p = true) (hnd : ps.Nodup)
    (hc : (lc, tupOf vc nc) ∈ news) (hD : DatAll news vc ds) (hC : ∀ d ∈ ds, ConnD NM 3 "s" d) (hd5 : ds.length ≤ 5)
    (T : Top hd.view_39 LO mean mg mb h₀) (hk : cs.kind = .function) (hd : dp + 5 < recursionLimit) (hu : un + 600 < cLine)
    (ret : ∀ b o kvs left h' tk', Fr h₀ L h' m → News h₀ L h' ((b, o) :: news) → (∀ q ∈ news, b ≠ q.1) → (b == sysModules) = false → o.IsDictOf (PySem.strKind PG w) kvs → runC ps 0 ds [] = .ok left → PairsD news kvs (ps.map fun p => (p, lookD left p)) → Q (.ref b) { s with heap := h', toks := tk' })
    (exc : ∀ x t d es n g h' tk' k tt, runC ps 0 ds [] = .error k → Fr h₀ L g m → g.UpToSlots h' → RaisedD base (envX cn cs L a ccd cl :: outer) x (.ref 45) (.ref t) d ((d, dictOf es n) :: news) h' → getL "kind" es = some (some (.str k tt)) → getL "at" es = some (some (.int 12 ta)) → E (.ref x) { s with heap := h', toks := tk' }) :
    wpAny (model PG w) (ktrTop dp un gd cn cs L a ccd cl outer) (call (.ref 59) [.ref lp, .ref lc, .int 12 ta]) Q E s := by
  k_with_none
  w_top off
  (k_with "pyIter ref" => (fail "by hand"))
  refine wpAny_call ?_
  k_dflt ktr_enter
  (repeat' ((fail_if_success (with_reducible show wpAny _ _ (pyIter _) _ _ _)); (first | (k_unfold; (try dsimp only)) | (k_end; wrow_close) | walk1 | (dsimp only; walk1) | (leave1; walk_say "STEP leave1"; try dsimp only) | fail "no step")))
  rename_i g1 L1 _ FG1 B1 X1 T1 dT _ oT lT loT hT0 _ _ _ h1 F1 N1
  have hMk := kstMark
  have hMk2 := kdMark
  have hOT : OwnOff news [dT] := fun p hp b hb => by
    rw [List.mem_singleton.mp hb]
    exact Nat.ne_of_lt (lT p hp)
  refine tup_loopS ["name"] (fun i nx => ∃ o kvs, nx = (dT, o) :: news ∧ o.IsDictOf (PySem.strKind PG w) kvs ∧ kvs = (ps.take i).map fun p => (p, Value.none)) rfl (.tail _ hp) rfl rfl F1 N1 ⟨oT, [], rfl, hT0, rfl⟩ ?turn ?done
  case turn =>
    clear F1 N1
    rintro i v u nx h2 tk2 own hv hown hl2 ⟨o2, kvs2, rfl, hd2, hkv2⟩ F2 N2
    have hi : i < ps.length := by rw [← hS.length]; exact (List.getElem?_eq_some_iff.mp hv).1
    obtain ⟨tx, hx⟩ := hS.get hi
    rw [hv] at hx
    obtain rfl := Option.some.inj hx
    have hk2 : kvs2.length ≤ 4 := by rw [hkv2, List.length_map, List.length_take]; omega
    simp only [List.cons_append, List.map_cons] at N2 hown
    (repeat' ((fail_if_success (with_reducible show InvEndG _ _ _ _ _ _)); (fail_if_success (show Q _ _)); (fail_if_success (with_reducible show wpAny _ _ (eval (Expr.ListComp _ _ _ _) _) _ _ _)); (fail_if_success (with_reducible show LCg.CompEnd _ _ _ _ _ _ _ _ _ _ _ _ _ _)); (first | (k_unfold; (try dsimp only)) | (k_end; wrow_close) | walk1 | (dsimp only; walk1) | (leave1; walk_say "STEP leave1"; try dsimp only) | fail "no step")))
    rename Obj.IsDictOf _ _ (stored _ _ _) => hd9
    rename News g1 L1 _ _ => kN
    rw [hkv2, none_fresh hnd hi] at hd9
    refine tup_end ((dT, _) :: news) (by assumption) kN ?hn ?ho hown (.tail _ hp) ?hr ⟨_, _, rfl, hd9, rfl⟩
    case hn => intro p hp; simp only [List.mem_cons, List.mem_append] at hp ⊢; rcases hp with h | h <;> simp [h]
    case ho => intro p hp; simp [hp]
    case hr => exact by intro z hz; simp only [List.contains_cons, List.contains_nil, Bool.or_false, beq_eq_false_iff_ne, ne_eq] at hz; simp [hz]
  case done =>
    clear F1 N1
    rintro u nx h2 tk2 ⟨oT, kvT, rfl, hdT, hkT⟩ - F2 N2
    rw [hS.length, List.take_length] at hkT
    have hkT4 : kvT.length ≤ 4 := by rw [hkT, List.length_map]; exact hps
    (repeat' ((fail_if_success (with_reducible show wpAny _ _ (pyIter _) _ _ _)); (first | (k_unfold; (try dsimp only)) | (k_end; wrow_close) | walk1 | (dsimp only; walk1) | (leave1; walk_say "STEP leave1"; try dsimp only) | fail "no step")))
    rename_i _ _ _ _ _ dN _ oN _ _ loN hN0 _ _ _ lN _ _ _ h3 _ _ _ _ hr3 F3 N3 _
    have hON : OwnOff news [dN] := fun p hp b hb => by
      rw [List.mem_singleton.mp hb]
      exact Nat.ne_of_lt (tb_ltOf lN.2 p hp)
    have hNT : dN ≠ dT := Nat.ne_of_gt lN.1
    refine' kd_range (x := "place") (fun c : (Obj × List (Str × Value)) × (Obj × List (Str × Value)) × List (Str × Dat) => [(dN, c.2.1.1), (dT, c.1.1)]) news (fun _ => [])
      (fun _ c => (c.1.1.IsDictOf (PySem.strKind PG w) c.1.2 ∧ PairsD news c.1.2 (ps.map fun p => (p, lookD c.2.2 p))) ∧ c.2.1.1.IsDictOf (PySem.strKind PG w) c.2.1.2 ∧ PairsD news c.2.1.2 (c.2.2.map fun q => (q.1, Dat.bool true))) ["name", "e"]
      (fun pre c => c.2.2.length ≤ pre.length ∧ runC ps pre.length (ds.drop pre.length) c.2.2 = runC ps 0 ds []) (dN :: dT :: news.map (·.1)) ((oT, kvT), (oN, []), []) rfl hr3 (small_one (by omega) (by omega) (by omega) (by omega)) (rangeSize_nat _ _) F3 N3 ?ki ?ka ?kf ?kk ?kp ?turn ?done
    case ki => intro p hp; simpa using hp
    case ka => intro c; rfl
    case kf => exact ⟨⟨hdT, by rw [hkT]; exact none_pairs _ _⟩, hN0, .nil⟩
    case kk => intro p hp; nomatch hp
    case kp => exact ⟨Nat.le_refl _, rfl⟩
    case turn =>
      clear hr3 F3 N3 hdT
      rintro ⟨⟨o1, kv1⟩, ⟨o2, kv2⟩, left⟩ tl pre k t u h tk own hkeq hlt hsep hoff ⟨⟨hfd1, hfp1⟩, hfd2, hfp2⟩ ⟨hlen, hrun⟩ F1 N1
      dsimp only [kstB] at F1 hfd1 hfp1 hfd2 hfp2 hlen hrun
      simp only [List.cons_append, List.nil_append] at N1
      have hi : pre.length < ds.length := by omega
      obtain ⟨v, hv, hDv⟩ := hD.get hi
      have hCd := hC _ (List.getElem_mem hi)
      have hdrop := List.drop_eq_getElem_cons hi
      generalize ds[pre.length] = d at hDv hCd hdrop
      rw [hdrop] at hrun
      obtain ⟨a1, vn, ve, nn, rfl, hm1, hE, hcase⟩ := connD_open hDv hCd
      have hk0 : k.toNat = pre.length := by omega
      have hv' : vc[k.toNat]? = some (.ref a1) := by rw [hk0]; exact hv
      have hkv1 := hfp1.length
      have hkv2 := hfp2.length
      rw [List.length_map] at hkv1 hkv2
      rcases hcase with ⟨rfl, hnm⟩ | ⟨x, tx, rfl, hxN, hnm⟩
      · by_cases hpl : pre.length < ps.length
        · obtain ⟨tx, hx'⟩ := hS.get hpl
          have hpick : pick ps pre.length d = some ps[pre.length] := by rw [pick_none hnm]; exact List.getElem?_eq_getElem hpl
          have hxps : ps[pre.length] ∈ ps := List.getElem_mem hpl
          generalize ps[pre.length] = x at hx' hpick hxps
          have hvx : vp[k.toNat]? = some (.str x tx) := by rw [hk0]; exact hx'
          have hkI : ¬ k ≥ (ps.length : Int) := by omega
          have hdT : decide (x ∈ (ps.map fun p => (p, lookD left p)).map (·.1)) = true := by rw [keys_tab]; exact decide_eq_true hxps
          by_cases hxl : x ∈ left.map (·.1)
          · have hdx : decide (x ∈ (left.map fun q => (q.1, Dat.bool true)).map (·.1)) = true := by rw [keys_named]; exact decide_eq_true hxl
            have hres : runC ps 0 ds [] = .error "port_connected_twice" := by rw [← hrun, runC_twice hpick hxps hxl]
            (repeat' ((fail_if_success (with_reducible show InvEndG _ _ _ _ _ _)); (fail_if_success (show Q _ _)); (fail_if_success (with_reducible show wpAny _ _ (eval (Expr.ListComp _ _ _ _) _) _ _ _)); (fail_if_success (with_reducible show LCg.CompEnd _ _ _ _ _ _ _ _ _ _ _ _ _ _)); (first | (k_unfold; (try dsimp only)) | (k_end; wrow_close) | walk1 | (dsimp only; walk1) | (leave1; walk_say "STEP leave1"; try dsimp only) | fail "no step")))
            refine raise_out (news := news) rfl B1 (by assumption) (by assumption) (by assumption) rfl (fun p hp => List.Mem.tail _ (.tail _ (List.mem_append.mpr (.inl hp)))) fun h' R U => ?_
            exact exc _ _ _ _ _ _ _ _ _ _ hres FG1 U R (by assumption) (by assumption)
          · have hdx : decide (x ∈ (left.map fun q => (q.1, Dat.bool true)).map (·.1)) = false := by rw [keys_named]; exact decide_eq_false hxl
            (repeat' ((fail_if_success (with_reducible show InvEndG _ _ _ _ _ _)); (fail_if_success (show Q _ _)); (fail_if_success (with_reducible show wpAny _ _ (eval (Expr.ListComp _ _ _ _) _) _ _ _)); (fail_if_success (with_reducible show LCg.CompEnd _ _ _ _ _ _ _ _ _ _ _ _ _ _)); (first | (k_unfold; (try dsimp only)) | (k_end; wrow_close) | walk1 | (dsimp only; walk1) | (leave1; walk_say "STEP leave1"; try dsimp only) | fail "no step")))
            rename Obj.IsDictOf _ _ (stored kv2 _ _) => hd2
            rename Obj.IsDictOf _ _ (stored kv1 _ _) => hd1
            rw [stored_new hfp2 (by rw [keys_named]; exact hxl)] at hd2
            rename News g1 L1 _ _ => kN
            refine kd_end ((_, _), (_, kv2 ++ [(x, Value.bool true)]), left ++ [(x, cnE d)]) [] hsep (by assumption) kN ?hn ?ho rfl (fun _ h => nomatch h) (fun _ h => nomatch h) (fun _ h => nomatch h) ?hr ⟨⟨hd1, ?hf1⟩, hd2, ?hf2⟩ ⟨?hp1, ?hp2⟩
            case hn => intro p hp; simp only [List.mem_append, List.mem_cons, List.nil_append, List.cons_append, List.not_mem_nil, or_false] at hp ⊢; rcases hp with h | h | h | h <;> simp [h]
            case ho => intro p hp; simp [hp]
            case hr => kst_same
            case hf1 => exact hfp1.step hxps hxl hE
            case hf2 => rw [List.map_append]; exact hfp2.snoc (.bool _)
            case hp1 => simp only [List.length_append, List.length_cons, List.length_nil]; omega
            case hp2 => rw [← hrun, runC_go hpick hxps hxl, List.length_append, List.length_cons, List.length_nil]
        · have hkI : k ≥ (ps.length : Int) := by omega
          have hres : runC ps 0 ds [] = .error "too_many_ports" := by rw [← hrun, runC_none (by rw [pick_none hnm]; exact List.getElem?_eq_none (by omega))]
          (repeat' ((fail_if_success (with_reducible show InvEndG _ _ _ _ _ _)); (fail_if_success (show Q _ _)); (fail_if_success (with_reducible show wpAny _ _ (eval (Expr.ListComp _ _ _ _) _) _ _ _)); (fail_if_success (with_reducible show LCg.CompEnd _ _ _ _ _ _ _ _ _ _ _ _ _ _)); (first | (k_unfold; (try dsimp only)) | (k_end; wrow_close) | walk1 | (dsimp only; walk1) | (leave1; walk_say "STEP leave1"; try dsimp only) | fail "no step")))
          refine raise_out (news := news) rfl B1 (by assumption) (by assumption) (by assumption) rfl (fun p hp => List.Mem.tail _ (.tail _ (List.mem_append.mpr (.inl hp)))) fun h' R U => ?_
          exact exc _ _ _ _ _ _ _ _ _ _ hres FG1 U R (by assumption) (by assumption)
      · have hpick : pick ps pre.length d = some x := pick_some hnm
        have hxo := nm_ok x hxN
        by_cases hxps : x ∈ ps
        · have hdT : decide (x ∈ (ps.map fun p => (p, lookD left p)).map (·.1)) = true := by rw [keys_tab]; exact decide_eq_true hxps
          by_cases hxl : x ∈ left.map (·.1)
          · have hdx : decide (x ∈ (left.map fun q => (q.1, Dat.bool true)).map (·.1)) = true := by rw [keys_named]; exact decide_eq_true hxl
            have hres : runC ps 0 ds [] = .error "port_connected_twice" := by rw [← hrun, runC_twice hpick hxps hxl]
            (repeat' ((fail_if_success (with_reducible show InvEndG _ _ _ _ _ _)); (fail_if_success (show Q _ _)); (fail_if_success (with_reducible show wpAny _ _ (eval (Expr.ListComp _ _ _ _) _) _ _ _)); (fail_if_success (with_reducible show LCg.CompEnd _ _ _ _ _ _ _ _ _ _ _ _ _ _)); (first | (k_unfold; (try dsimp only)) | (k_end; wrow_close) | walk1 | (dsimp only; walk1) | (leave1; walk_say "STEP leave1"; try dsimp only) | fail "no step")))
            refine raise_out (news := news) rfl B1 (by assumption) (by assumption) (by assumption) rfl (fun p hp => List.Mem.tail _ (.tail _ (List.mem_append.mpr (.inl hp)))) fun h' R U => ?_
            exact exc _ _ _ _ _ _ _ _ _ _ hres FG1 U R (by assumption) (by assumption)
          · have hdx : decide (x ∈ (left.map fun q => (q.1, Dat.bool true)).map (·.1)) = false := by rw [keys_named]; exact decide_eq_false hxl
            (repeat' ((fail_if_success (with_reducible show InvEndG _ _ _ _ _ _)); (fail_if_success (show Q _ _)); (fail_if_success (with_reducible show wpAny _ _ (eval (Expr.ListComp _ _ _ _) _) _ _ _)); (fail_if_success (with_reducible show LCg.CompEnd _ _ _ _ _ _ _ _ _ _ _ _ _ _)); (first | (k_unfold; (try dsimp only)) | (k_end; wrow_close) | walk1 | (dsimp only; walk1) | (leave1; walk_say "STEP leave1"; try dsimp only) | fail "no step")))
            rename Obj.IsDictOf _ _ (stored kv2 _ _) => hd2
            rename Obj.IsDictOf _ _ (stored kv1 _ _) => hd1
            rw [stored_new hfp2 (by rw [keys_named]; exact hxl)] at hd2
            rename News g1 L1 _ _ => kN
            refine kd_end ((_, _), (_, kv2 ++ [(x, Value.bool true)]), left ++ [(x, cnE d)]) [] hsep (by assumption) kN ?hn ?ho rfl (fun _ h => nomatch h) (fun _ h => nomatch h) (fun _ h => nomatch h) ?hr ⟨⟨hd1, ?hf1⟩, hd2, ?hf2⟩ ⟨?hp1, ?hp2⟩
            case hn => intro p hp; simp only [List.mem_append, List.mem_cons, List.nil_append, List.cons_append, List.not_mem_nil, or_false] at hp ⊢; rcases hp with h | h | h | h <;> simp [h]
            case ho => intro p hp; simp [hp]
            case hr => kst_same
            case hf1 => exact hfp1.step hxps hxl hE
            case hf2 => rw [List.map_append]; exact hfp2.snoc (.bool _)
            case hp1 => simp only [List.length_append, List.length_cons, List.length_nil]; omega
            case hp2 => rw [← hrun, runC_go hpick hxps hxl, List.length_append, List.length_cons, List.length_nil]
        · have hdx : decide (x ∈ (ps.map fun p => (p, lookD left p)).map (·.1)) = false := by rw [keys_tab]; exact decide_eq_false hxps
          have hres : runC ps 0 ds [] = .error "unknown_port" := by rw [← hrun, runC_unk hpick hxps]
          (repeat' ((fail_if_success (with_reducible show InvEndG _ _ _ _ _ _)); (fail_if_success (show Q _ _)); (fail_if_success (with_reducible show wpAny _ _ (eval (Expr.ListComp _ _ _ _) _) _ _ _)); (fail_if_success (with_reducible show LCg.CompEnd _ _ _ _ _ _ _ _ _ _ _ _ _ _)); (first | (k_unfold; (try dsimp only)) | (k_end; wrow_close) | walk1 | (dsimp only; walk1) | (leave1; walk_say "STEP leave1"; try dsimp only) | fail "no step")))
          refine raise_out (news := news) rfl B1 (by assumption) (by assumption) (by assumption) rfl (fun p hp => List.Mem.tail _ (.tail _ (List.mem_append.mpr (.inl hp)))) fun h' R U => ?_
          exact exc _ _ _ _ _ _ _ _ _ _ hres FG1 U R (by assumption) (by assumption)
    case done =>
      clear hr3 F3 N3
      rintro ⟨⟨o1, kv1⟩, ⟨o2, kv2⟩, left⟩ tl u h tk hoff ⟨⟨hfd1, hfp1⟩, hfd2, hfp2⟩ ⟨hlen, hrun⟩ F1 N1
      dsimp only [kstB] at F1 hfd1 hfp1 hlen hrun
      simp only [List.cons_append, List.nil_append] at N1
      rw [rangeKs_length, show (↑ds.length - (0 : Int)).toNat = ds.length by omega, List.drop_length, runC] at hrun
      (repeat' ((fail_if_success (with_reducible show InvEndG _ _ _ _ _ _)); (fail_if_success (show Q _ _)); (fail_if_success (with_reducible show wpAny _ _ (eval (Expr.ListComp _ _ _ _) _) _ _ _)); (fail_if_success (with_reducible show LCg.CompEnd _ _ _ _ _ _ _ _ _ _ _ _ _ _)); (first | (k_unfold; (try dsimp only)) | (k_end; wrow_close) | walk1 | (dsimp only; walk1) | (leave1; walk_say "STEP leave1"; try dsimp only) | fail "no step")))
      rename News h₀ L _ _ => kN
      refine ret dT o1 kv1 left _ _ (by assumption) (fun p hp => kN p ?_) (fun q hq => (hOT q hq dT (List.mem_singleton.mpr rfl)).symm) loT hfd1 hrun.symm hfp1
      rcases List.mem_cons.mp hp with rfl | hp
      · exact .tail _ (.head _)
      · exact .tail _ (.tail _ (List.mem_append.mpr (.inl hp)))
end Mine
/-! PL3 -/
namespace Mine
open PySem PySem.W PyProof.Rows PySem.Calls
def isNoneD : Dat → Bool
  | .none => true
  | _ => false
/-- what a primitive does not take -/
def badD (d : Dat) : Bool := (cnName d).isSome || isNoneD (cnE d)
def runP (k : Nat) (ds : List Dat) : Except Str Unit := if ds.length = k + 1 then (if ds.any badD then .error "primitive_connection" else .ok ()) else .error "terminal_count"
theorem connD_open2 {led : List (Addr × Obj)} {v : Value} {d : Dat} {names : List Str} {k : Int} {p : Str} (h : DatIn led v d) (hc : ConnD names k p d) :
    ∃ a vn ve nn, v = .ref a ∧ (a, ({ cls := .type "tuple", data := .seq [vn, ve].toArray nn } : Obj)) ∈ led ∧ DatIn led ve (cnE d) ∧ ((vn = .none ∧ cnName d = none) ∨ ∃ x t, vn = .str x t ∧ x ∈ names ∧ cnName d = some x) ∧ ((ve = .none ∧ isNoneD (cnE d) = true) ∨ ∃ b, ve = .ref b ∧ isNoneD (cnE d) = false) := by
  obtain ⟨nm, e, rfl, hn, he⟩ := hc
  cases h with
  | tuple hm r =>
    cases r with
    | cons h1 r =>
      cases r with
      | cons h2 r =>
        cases r
        refine ⟨_, _, _, _, rfl, hm, h2, ?_, ?_⟩
        · rcases hn with rfl | ⟨x, rfl, hx⟩
          · cases h1; exact .inl ⟨rfl, rfl⟩
          · cases h1; exact .inr ⟨x, _, rfl, hx, rfl⟩
        · rcases he with rfl | ⟨i, _, _, rfl⟩
          · cases h2; exact .inl ⟨rfl, rfl⟩
          · cases h2; exact .inr ⟨_, rfl, rfl⟩
theorem runP_count {k : Nat} {ds : List Dat} (h : ds.length ≠ k + 1) : runP k ds = .error "terminal_count" := by rw [runP, if_neg h]
theorem runP_bad {k : Nat} {ds : List Dat} (h : ds.length = k + 1) {d : Dat} (hd : d ∈ ds) (hb : badD d = true) : runP k ds = .error "primitive_connection" := by
  rw [runP, if_pos h, if_pos (List.any_eq_true.mpr ⟨d, hd, hb⟩)]
theorem runP_ok {k : Nat} {ds : List Dat} (h : ds.length = k + 1) (hb : ∀ d ∈ ds, badD d = false) : runP k ds = .ok () := by
  rw [runP, if_pos h, if_neg]
  intro q
  obtain ⟨d, hd, e⟩ := List.any_eq_true.mp q
  rw [hb d hd] at e
  cases e
theorem second_all {led : List (Addr × Obj)} {vc : List Value} {ds : List Dat} {names : List Str} {k : Int} {p : Str} : DatAll led vc ds → (∀ d ∈ ds, ConnD names k p d) →
    ∃ us, DatAll led us (ds.map cnE) ∧ ∀ (i : Nat) (v : Value), vc[i]? = some v → ∃ a vn ve nn, v = Value.ref a ∧ (a, ({ cls := .type "tuple", data := .seq [vn, ve].toArray nn } : Obj)) ∈ led ∧ us[i]? = some ve
  | .nil, _ => ⟨[], .nil, fun i v h => by simp at h⟩
  | .cons h r, hC => by
    obtain ⟨us, h1, h2⟩ := second_all r fun d hd => hC d (.tail _ hd)
    obtain ⟨a, vn, ve, nn, rfl, hm, hE, _⟩ := connD_open h (hC _ (.head _))
    refine ⟨ve :: us, .cons hE h1, fun i v hv => ?_⟩
    cases i with
    | zero => simp only [List.getElem?_cons_zero, Option.some.injEq] at hv; subst hv; exact ⟨a, vn, ve, nn, rfl, hm, rfl⟩
    | succ i => simp only [List.getElem?_cons_succ] at hv ⊢; exact h2 i v hv
theorem sel_all (us : List Value) : ∀ n, n ≤ us.length → sel (fun _ => true) (fun i => us.getD i .none) n = us.take n := by
  intro n
  induction n with
  | zero => intro _; rfl
  | succ n ih =>
    intro h
    rw [sel, ih (by omega), if_pos rfl, List.take_add_one, List.getElem?_eq_getElem (show n < us.length by omega)]
    simp [List.getD, List.getElem?_eq_getElem (show n < us.length by omega)]
end Mine
/-! C6 -/
namespace Mine
open PySem PySem.W PyProof.Rows PySem.Calls
local macro_rules | `(tactic| walk_at "call builtin:len") => `(tactic| (k_here; (with_reducible show wpAny _ _ (call (Value.builtin "len") [Value.ref _]) _ _ _); k_dflt (first
  | (refine' tup_len ?k1 ?k2 ?k3 ?k4 ?_; (case k1 => k_asm); (case k2 => k_mem); (case k3 => assumption); (case k4 => omega); k_whole)
  | (refine' tup_lenS ?k1 ?k2 ?k3 ?k4 ?_; (case k1 => k_asm); (case k2 => k_mem); (case k3 => assumption); (case k4 => omega); k_whole)
  | (refine' lst_lenS ?k1 ?k2 ?k3 ?k4 ?_; (case k1 => k_asm); (case k2 => k_mem); (case k3 => assumption); (case k4 => omega); k_whole))))
local macro_rules | `(tactic| walk_at "call type:range") => `(tactic| (k_here; (rename Fr _ _ _ _ => F'); (rename News _ _ _ _ => N'); (with_unfolding_all refine range1_rows F' N' ?_; intro _ _ _ _ _ _ _ _ _)))
local macro_rules | `(tactic| walk_at "subscriptTail") => `(tactic| (k_here; (with_reducible show wpAny _ _ (subscriptTail _ _ (Value.ref _) (Value.int _ _)) _ _ _); (with_unfolding_all first
  | (refine' tup_at ?k1 ?k2 ?k3 ?k4 ?k5 ?_ ?k6; (case k1 => k_asm); (case k2 => k_mem); (case k4 => first | assumption | exact rfl); (case k3 => omega); (case k5 => omega); (case k6 => with_unfolding_all rfl); k_whole)
  | (refine' lst_at ?k1 ?k2 ?k3 ?k4 ?k5 ?_ ?k6; (case k1 => k_asm); (case k2 => k_mem); (case k4 => first | assumption | exact rfl); (case k3 => omega); (case k5 => omega); (case k6 => with_unfolding_all rfl); k_whole))))
local macro_rules | `(tactic| walk_at "subscriptTail") => `(tactic| (k_here; (with_reducible show wpAny _ _ (subscriptTail _ _ (Value.ref _) (Value.str _ _)) _ _ _); k_dflt (refine' dict_item ?k1 ?k2 ?k3 ?k5 ?_ ?k6 ?k7; (case k1 => k_asm); (case k2 => k_mem); (case k3 => assumption); (case k5 => assumption); (case k6 => with_unfolding_all rfl); (case k7 => (intro _; with_unfolding_all rfl)); k_whole)))
local macro_rules | `(tactic| walk_at "compareOp NotIn str ref") => `(tactic| (k_here; (with_reducible show wpAny _ _ (compareOp CmpOp.NotIn (Value.str _ _) (Value.ref _)) _ _ _); k_dflt (first
  | (refine' dict_notIn ?k1 ?k2 ?k3 ?k4 ?k5 ?k6 ?_; (case k1 => k_asm); (case k2 => k_mem); (case k3 => assumption); (case k4 => assumption); (case k5 => assumption); (case k6 => assumption); k_whole)
  | (refine' notIn_yes ?k1 ?k2 ?k3 ?k4 ?k5 ?k6 ?_; (case k1 => k_asm); (case k2 => k_mem); (case k3 => assumption); (case k4 => assumption); (case k5 => assumption); (case k6 => ktr_units); k_whole)
  | (refine' notIn_no ?k1 ?k2 ?k3 ?k4 ?k5 ?k7 ?k6 ?_; (case k1 => k_asm); (case k2 => k_mem); (case k3 => assumption); (case k4 => assumption); (case k5 => assumption); (case k7 => assumption); (case k6 => ktr_units); k_whole))))
local macro_rules | `(tactic| walk_at "compareOp In str ref") => `(tactic| (k_here; (with_reducible show wpAny _ _ (compareOp CmpOp.In (Value.str _ _) (Value.ref _)) _ _ _); k_dflt (refine' dict_in ?k1 ?k2 ?k3 ?k4 ?k5 ?k6 ?_; (case k1 => k_asm); (case k2 => k_mem); (case k3 => assumption); (case k4 => assumption); (case k5 => assumption); (case k6 => assumption); k_whole)))
local macro_rules | `(tactic| walk_at "setItem ref str") => `(tactic| (k_here; k_dflt (refine' dict_set ?k1 ?k2 ?k3 ?k4 ?k5 ?_; (case k1 => k_asm); (case k2 => k_asm); (case k3 => k_updF); (case k4 => assumption); (case k5 => omega); k_whole); intro h' o' F' N' hd'; (try dsimp only at N')))

local macro_rules | `(tactic| walk_at "exec Raise some none") => `(tactic| (k_here; (with_reducible show wpAny _ _ (exec (Stmt.Raise (some (Expr.Call (Expr.Name _ _) _ [] _)) none _) _) _ _ _); k_dflt (refine' Raise_D (C := 45) ?hh ?_; (case hh => exact rfl); k_whole)))
local macro_rules | `(tactic| walk_at "call ref") => `(tactic| (k_here; k_dflt (first
  | (refine' design_new2 ?B ?F ?X ?N ?T ?hA ?hf ?hke ?hr ?_; (case B => k_asm); (case F => k_asm); (case X => k_asm); (case N => k_asm); (case T => k_asm); (case hA => exact rfl); (case hf => exact rfl); (case hke => exact rfl); (case hr => ktr_room); k_whole; intro x' t' d' es' n' h' tk' F' N' O' hk1' hk2'; refine raise_fin (by k_asm) (by assumption) (by assumption) ?_)
  | (refine' design_new3 ?B ?F ?X ?N ?T ?hA ?hf ?hke ?hr ?_; (case B => k_asm); (case F => k_asm); (case X => k_asm); (case N => k_asm); (case T => k_asm); (case hA => exact rfl); (case hf => exact rfl); (case hke => exact rfl); (case hr => ktr_room); k_whole; intro x' t' d' es' n' h' tk' F' N' O' hk1' hk2'; refine raise_fin (by k_asm) (by assumption) (by assumption) ?_))))

local macro_rules | `(tactic| walk_at "exec For Tuple Name cons nil") => `(tactic| (k_here; (rename Fr _ _ _ _ => lF'); (with_unfolding_all refine' For_turns lF' ?_; k_whole)))
local macro_rules | `(tactic| walk_at "getAttr ref") => `(tactic| (k_here; k_dflt (refine' get_own ?k1 ?k2 ?k3 ?k4 ?k5 ?k6 ?k7 ?k8 ?k9 ?_; (case k1 => k_asm); (case k2 => k_asm); (case k3 => k_inst); (case k4 => k_is); (case k5 => k_is); (case k6 => k_is); (case k7 => k_is); (case k8 => assumption); (case k9 => k_handed); k_whole)))
theorem term_ct {w : World} {mean : ExcName → Option Value} {mg mb : Str → Option Value} {dp un : Nat} {gd : Option (List Code)} {cn : Str} {cs : Scope} {a : Addr} {ccd : Value} {cl : List (Str × Addr)} {outer : List Env} {A₀ : Around} {base h₀ : Heap} {L : Addr} {m : Str → Option Value}
    {s : Shared} {lx dx li lc : Addr} {es : List DictEntry} {n : Nat} {vi vc : List Value} {is : List Str} {ds : List Dat} {ni nc : Nat} {ta : Tok} {news : List (Addr × Obj)} {Q E : Value → Shared → Prop}
    (B : Below A₀ base outer h₀) (F : Fr h₀ L s.heap m) (X : Frag.In (hd.heap_39 w.params) h₀) (N : News h₀ L s.heap news)
    (hx : (lx, instObj 76 dx) ∈ news) (hdx : (dx, dictOf es n) ∈ news) (hin : getL "inputs" es = some (some (.ref li))) (hi : (li, tupOf vi ni) ∈ news) (hS : StrsD vi is) (hi4 : is.length ≤ 4)
    (hc : (lc, tupOf vc nc) ∈ news) (hD : DatAll news vc ds) (hC : ∀ d ∈ ds, ConnD ["x"] 1 "t" d) (hd6 : ds.length ≤ 6)
    (T : Top hd.view_39 LO mean mg mb h₀) (hk : cs.kind = .function) (hd : dp + 5 < recursionLimit) (hu : un + 600 < cLine)
    (ret : ∀ b us nn h' tk', runP is.length ds = .ok () → Fr h₀ L h' m → News h₀ L h' ((b, tupOf us nn) :: news) → DatAll news us (ds.map cnE) → Q (.ref b) { s with heap := h', toks := tk' })
    (exc : ∀ x t d es n g h' tk' k tt, runP is.length ds = .error k → Fr h₀ L g m → g.UpToSlots h' → RaisedD base (envX cn cs L a ccd cl :: outer) x (.ref 45) (.ref t) d ((d, dictOf es n) :: news) h' → getL "kind" es = some (some (.str k tt)) → getL "at" es = some (some (.int 9 ta)) → E (.ref x) { s with heap := h', toks := tk' }) :
    wpAny (model PG w) (ktrTop dp un gd cn cs L a ccd cl outer) (call (.ref 52) [.ref lx, .ref lc, .int 9 ta]) Q E s := by
  k_with_none
  w_top off
  (k_with "pyIter ref" => (fail "by hand"))
  refine wpAny_call ?_
  k_dflt ktr_enter
  rename_i g1 L1 _ FG1 F1 N1 B1 X1 T1
  have hMk := kstMark
  have hMk2 := kdMark
  (repeat' ((fail_if_success (with_reducible show wpAny _ _ (pyIter _) _ _ _)); (first | (k_unfold; (try dsimp only)) | (k_end; wrow_close) | walk1 | (dsimp only; walk1) | (leave1; walk_say "STEP leave1"; try dsimp only) | fail "no step")))
  · rename ((ds.length : Int) ≠ _) => hcI
    have hres := runP_count (k := is.length) (ds := ds) (by omega)
    refine raise_out (news := news) rfl B1 (by assumption) (by assumption) (by assumption) rfl (fun p hp => hp) fun h' R U => ?_
    exact exc _ _ _ _ _ _ _ _ _ _ hres FG1 U R (by assumption) (by assumption)
  · rename ((ds.length : Int) = _) => hcI
    have hcnt : ds.length = is.length + 1 := by omega
    refine tup_loopS (news := news) ["name", "e"] (fun i nx => nx = news ∧ ∀ d ∈ ds.take i, badD d = false) rfl hc rfl rfl (by assumption) (by assumption) ⟨rfl, fun _ h => nomatch h⟩ ?turn ?done
    case turn =>
      rintro i v u nx h2 tk2 own hv hown hl2 ⟨rfl, hgood⟩ F3 N3
      have hi : i < ds.length := by rw [← hD.length]; exact (List.getElem?_eq_some_iff.mp hv).1
      obtain ⟨v', hv2, hDv⟩ := hD.get hi
      rw [hv] at hv2
      obtain rfl := Option.some.inj hv2
      have hmem := List.getElem_mem hi
      have hCd := hC _ hmem
      have htake : ds.take (i + 1) = ds.take i ++ [ds[i]] := by rw [List.take_add_one, List.getElem?_eq_getElem hi]; rfl
      generalize ds[i] = d at hDv hCd hmem htake
      obtain ⟨a1, vn, ve, nn, rfl, hm1, hE, hn, he⟩ := connD_open2 hDv hCd
      have hm2 : (a1, ({ cls := .type "tuple", data := .seq [vn, ve].toArray nn } : Obj)) ∈ nx ++ own := List.mem_append.mpr (.inl hm1)
      rcases hn with ⟨rfl, hnm⟩ | ⟨x, tx, rfl, hxN, hnm⟩
      · rcases he with ⟨rfl, hen⟩ | ⟨b, rfl, hen⟩
        · have hres := runP_bad hcnt hmem (by rw [badD, hen, Bool.or_true])
          (repeat' ((fail_if_success (with_reducible show InvEndG _ _ _ _ _ _)); (fail_if_success (show Q _ _)); (fail_if_success (with_reducible show wpAny _ _ (eval (Expr.ListComp _ _ _ _) _) _ _ _)); (fail_if_success (with_reducible show LCg.CompEnd _ _ _ _ _ _ _ _ _ _ _ _ _ _)); (first | (k_unfold; (try dsimp only)) | (k_end; wrow_close) | walk1 | (dsimp only; walk1) | (leave1; walk_say "STEP leave1"; try dsimp only) | fail "no step")))
          refine raise_out (news := nx) rfl B1 (by assumption) (by assumption) (by assumption) rfl (fun p hp => List.mem_append.mpr (.inl hp)) fun h' R U => ?_
          exact exc _ _ _ _ _ _ _ _ _ _ hres FG1 U R (by assumption) (by assumption)
        · (repeat' ((fail_if_success (with_reducible show InvEndG _ _ _ _ _ _)); (fail_if_success (show Q _ _)); (fail_if_success (with_reducible show wpAny _ _ (eval (Expr.ListComp _ _ _ _) _) _ _ _)); (fail_if_success (with_reducible show LCg.CompEnd _ _ _ _ _ _ _ _ _ _ _ _ _ _)); (first | (k_unfold; (try dsimp only)) | (k_end; wrow_close) | walk1 | (dsimp only; walk1) | (leave1; walk_say "STEP leave1"; try dsimp only) | fail "no step")))
          rename News g1 L1 _ _ => kN
          refine tup_end nx (by assumption) kN (fun p hp => List.mem_append.mpr (.inl hp)) (fun p hp => List.mem_append.mpr (.inr hp)) hown hl2 ?hr ⟨rfl, fun e he => ?_⟩
          case hr => intro z hz; simp only [List.contains_cons, List.contains_nil, Bool.or_false, Bool.or_eq_false_iff, beq_eq_false_iff_ne, ne_eq] at hz; simp [hz]
          rw [htake] at he
          rcases List.mem_append.mp he with he | he
          · exact hgood e he
          · rw [List.mem_singleton.mp he, badD, hnm, hen]; rfl
      · have hres := runP_bad hcnt hmem (by rw [badD, hnm]; rfl)
        (repeat' ((fail_if_success (with_reducible show InvEndG _ _ _ _ _ _)); (fail_if_success (show Q _ _)); (fail_if_success (with_reducible show wpAny _ _ (eval (Expr.ListComp _ _ _ _) _) _ _ _)); (fail_if_success (with_reducible show LCg.CompEnd _ _ _ _ _ _ _ _ _ _ _ _ _ _)); (first | (k_unfold; (try dsimp only)) | (k_end; wrow_close) | walk1 | (dsimp only; walk1) | (leave1; walk_say "STEP leave1"; try dsimp only) | fail "no step")))
        refine raise_out (news := nx) rfl B1 (by assumption) (by assumption) (by assumption) rfl (fun p hp => List.mem_append.mpr (.inl hp)) fun h' R U => ?_
        exact exc _ _ _ _ _ _ _ _ _ _ hres FG1 U R (by assumption) (by assumption)
    case done =>
      rintro u nx h2 tk2 ⟨rfl, hgood⟩ - F3 N3
      have hres := runP_ok hcnt fun d hd => hgood d (by rw [hD.length, List.take_length]; exact hd)
      obtain ⟨us, hU, hpair⟩ := second_all hD hC
      have hul : us.length = vc.length := by rw [hU.length, List.length_map, hD.length]
      (repeat' ((fail_if_success (with_reducible show InvEndG _ _ _ _ _ _)); (fail_if_success (show Q _ _)); (fail_if_success (with_reducible show wpAny _ _ (eval (Expr.ListComp _ _ _ _) _) _ _ _)); (fail_if_success (with_reducible show LCg.CompEnd _ _ _ _ _ _ _ _ _ _ _ _ _ _)); (first | (k_unfold; (try dsimp only)) | (k_end; wrow_close) | walk1 | (dsimp only; walk1) | (leave1; walk_say "STEP leave1"; try dsimp only) | fail "no step")))
      k_dflt (refine comp_pairs (hF₀ := by k_asm) (by with_unfolding_all rfl) (by decide) (by rfl) (by decide) (by rfl) (by rfl) (by decide) ?_)
      (repeat' ((fail_if_success (with_reducible show InvEndG _ _ _ _ _ _)); (fail_if_success (show Q _ _)); (fail_if_success (with_reducible show wpAny _ _ (eval (Expr.ListComp _ _ _ _) _) _ _ _)); (fail_if_success (with_reducible show LCg.CompEnd _ _ _ _ _ _ _ _ _ _ _ _ _ _)); (first | (k_unfold; (try dsimp only)) | (k_end; wrow_close) | walk1 | (dsimp only; walk1) | (leave1; walk_say "STEP leave1"; try dsimp only) | fail "no step")))
      refine ⟨lc, _, vc, nc, nx, fun _ => true, fun i => us.getD i .none, rfl, rfl, by assumption, by assumption, hc, .inr rfl, rfl, (by have := hD.length; rw [sizeLine_eq]; omega), ?turns, ?fin⟩
      case turns =>
        intro g i v hv
        obtain ⟨a, vn, ve, nn, rfl, hm, hue⟩ := hpair i v hv
        refine ⟨a, _, vn, ve, nn, rfl, hm, rfl, rfl, ?_⟩
        intro C oC m₂ h tk E' hNs hx1 hx2 F4 N4
        have hpk : us.getD i .none = ve := by rw [List.getD_eq_getElem?_getD, hue]; rfl
        refine wpAny_pure ⟨rfl, ⟨_, rfl⟩, fun _ => ?_⟩
        (repeat' ((fail_if_success (with_reducible show InvEndG _ _ _ _ _ _)); (fail_if_success (show Q _ _)); (fail_if_success (with_reducible show wpAny _ _ (eval (Expr.ListComp _ _ _ _) _) _ _ _)); (fail_if_success (with_reducible show LCg.CompEnd _ _ _ _ _ _ _ _ _ _ _ _ _ _)); (first | (k_unfold; (try dsimp only)) | (k_end; wrow_close) | walk1 | (dsimp only; walk1) | (leave1; walk_say "STEP leave1"; try dsimp only) | fail "no step")))
        exact hpk.symm
      case fin =>
        intro D h3 tk3 F4 N4 hO
        rw [sel_all us _ (Nat.le_of_eq hul.symm), List.take_of_length_le (Nat.le_of_eq hul)] at N4
        have hl4 : Heap.IsList h3 D us.toArray := ⟨_, (N4 (D, LCg.lst us) (.head _)).1, rfl, _, rfl⟩
        walk1
        k_dflt (refine' kde_tupleOf (items := us.toArray) (zs := us) ?F ?N ?l ?z ?e ?_; (case F => exact F4); (case N => exact N4); (case l => exact hl4); (case z => (have := hD.length; simp; omega)); (case e => simp); k_whole)
        intro D2 h4 F5 N5 l5
        (repeat' ((fail_if_success (with_reducible show InvEndG _ _ _ _ _ _)); (fail_if_success (show Q _ _)); (fail_if_success (with_reducible show wpAny _ _ (eval (Expr.ListComp _ _ _ _) _) _ _ _)); (fail_if_success (with_reducible show LCg.CompEnd _ _ _ _ _ _ _ _ _ _ _ _ _ _)); (first | (k_unfold; (try dsimp only)) | (k_end; wrow_close) | walk1 | (dsimp only; walk1) | (leave1; walk_say "STEP leave1"; try dsimp only) | fail "no step")))
        rename News h₀ L _ _ => kN
        exact ret D2 us _ _ _ hres (by assumption) (fun p hp => kN p (by
          rcases List.mem_cons.mp hp with rfl | hp
          · exact .head _
          · exact .tail _ (.tail _ hp))) hU
end Mine
/-! PL4 -/
namespace Mine
open PySem PySem.W PyProof.Rows PySem.Calls
theorem pick4 (v1 v2 v3 v4 : Value) {r : Int} (h0 : 0 ≤ r) (h1 : r < 4) : ∃ k : Nat, 1 ≤ k ∧ k ≤ 4 ∧ slicePick #[v1, v2, v3, v4] none (some (1 + r)) none = ([v1, v2, v3, v4].take k).toArray := by
  have : r = 0 ∨ r = 1 ∨ r = 2 ∨ r = 3 := by omega
  rcases this with rfl | rfl | rfl | rfl
  · exact ⟨1, by decide, by decide, rfl⟩
  · exact ⟨2, by decide, by decide, rfl⟩
  · exact ⟨3, by decide, by decide, rfl⟩
  · exact ⟨4, by decide, by decide, rfl⟩
theorem StrsD.take {vs : List Value} {xs : List Str} (h : StrsD vs xs) (k : Nat) : StrsD (vs.take k) (xs.take k) := by
  induction h generalizing k with
  | nil => simp; exact .nil
  | cons x t _ ih =>
    cases k with
    | zero => exact .nil
    | succ k => exact .cons x t (ih k)
theorem pick4s (x1 x2 x3 x4 : Str) (t1 t2 t3 t4 : Tok) {r : Int} (h0 : 0 ≤ r) (h1 : r < 4) : ∃ (k : Nat) (vp : List Value), 1 ≤ k ∧ k ≤ 4 ∧ slicePick #[.str x1 t1, .str x2 t2, .str x3 t3, .str x4 t4] none (some (1 + r)) none = vp.toArray ∧ StrsD vp ([x1, x2, x3, x4].take k) := by
  obtain ⟨k, h1, h2, h3⟩ := pick4 (.str x1 t1) (.str x2 t2) (.str x3 t3) (.str x4 t4) h0 h1
  exact ⟨k, _, h1, h2, h3, StrsD.take (.cons _ _ (.cons _ _ (.cons _ _ (.cons _ _ .nil)))) k⟩
abbrev P4 : List Str := ["a", "b", "c", "d"]
abbrev I4 : List Str := ["x", "y", "z", "w"]
theorem p4_ok : ∀ p ∈ P4, PyData.strOk p = true := by decide +kernel
theorem p4_nodup : P4.Nodup := by decide +kernel
theorem strs4 (x1 x2 x3 x4 : Str) (t1 t2 t3 t4 : Tok) : StrsD [.str x1 t1, .str x2 t2, .str x3 t3, .str x4 t4] [x1, x2, x3, x4] := .cons _ _ (.cons _ _ (.cons _ _ (.cons _ _ .nil)))
theorem re412 {h₀ h : Heap} {L : Addr} {p1 p2 p3 p4 : Addr × Obj} (N : News h₀ L h [p1, p2, p3, p4]) : News h₀ L h [p4, p1, p2] := fun p hp => N p (by
  simp only [List.mem_cons, List.not_mem_nil, or_false] at hp ⊢
  rcases hp with h | h | h <;> simp [h])
end Mine
/-! KI -/
namespace Mine
open PySem PySem.W PyProof.Rows PySem.Calls PyProof.V
/-- the items of a dict as data -/
abbrev itemsD (l : List (Str × Dat)) : List Dat := l.map fun q => .tuple [.str q.1, q.2]
theorem itemsOpen {lo : Addr} {news : List (Addr × Obj)} {C : List Value → List (Addr × Obj) → Prop} : ∀ (kvs : List (Str × Value)) (l : List (Str × Dat)), PairsD news kvs l → ∀ (vs : List Value) (es : List Dat) (tups : List (Addr × Obj)), DatAll (tups ++ news) vs es → (∀ q ∈ tups, lo < q.1 ∧ ∀ p ∈ news, p.1 ≠ q.1) →
    (∀ vs' tups', DatAll (tups' ++ news) vs' (es ++ itemsD l) → (∀ q ∈ tups', lo < q.1 ∧ ∀ p ∈ news, p.1 ≠ q.1) → C vs' tups') → KdxOpen lo news (kvs.map fun p => (kyVal (PyData.str p.1), p.2)) vs tups C
  | [], _, .nil, vs, es, tups, hD, hT, hC => KdxOpen.nil (hC vs tups (by rw [itemsD, List.map_nil, List.append_nil]; exact hD) hT)
  | _ :: kvs, _ :: l, .cons (x := x) (v := v) (d := d) h r, vs, es, tups, hD, hT, hC => by
    refine KdxOpen.cons fun a t b1 b2 b3 => ?_
    refine itemsOpen kvs l r _ (es ++ [.tuple [.str x, d]]) _ ?_ ?_ ?_
    · refine (hD.mono fun p hp => .tail _ hp).append (.one (.tuple (.head _) (.cons (.str _ _) (.cons (h.mono fun p hp => .tail _ (List.mem_append.mpr (.inr hp))) .nil))))
    · intro q hq
      rcases List.mem_cons.mp hq with rfl | hq
      · exact ⟨b1, fun p hp => Nat.ne_of_lt (b2 p hp)⟩
      · exact hT q hq
    · intro vs' tups' h1 h2
      refine hC vs' tups' ?_ h2
      rw [List.append_assoc] at h1
      exact h1
section
variable {prog : Program} {w : World} {A : Around} {E : Value → Shared → Prop} {s : Shared} {h₀ : Heap} {L v d : Addr} {m : Str → Option Value} {news : List (Addr × Obj)} {od : Obj} {kvs : List (Str × Value)} {l : List (Str × Dat)} {Q : Value → Shared → Prop}
theorem list_items (hh : A.handled = none) (F : Fr h₀ L s.heap m) (N : News h₀ L s.heap news) (hvw : (v, { cls := .type "dict_items", data := .fields #[.ref d] }) ∈ news) (hmd : (d, od) ∈ news) (hod : od.IsDictOf (PySem.strKind prog w) kvs) (hn : kvs.length ≤ 1000) (hP : PairsD news kvs l)
    (h : ∀ B vs tups c h' tk, (∀ q ∈ news, q.1 ≠ B) → (∀ q ∈ tups, q.1 ≠ B ∧ ∀ p ∈ news, p.1 ≠ q.1) → Fr h₀ L h' m → News h₀ L h' (tups ++ (B, listOf vs.toArray c) :: news) → DatAll (tups ++ news) vs (itemsD l) → Q (.ref B) { s with heap := h', toks := tk }) :
    wpAny (model prog w) A (call (.type "list") [.ref v]) Q E s := by
  refine kdx_listN (enc := PyData.str) (knd := PySem.strKind prog w) hh F N hvw hmd hod (by omega) (fun k v h => Value.isStrOf_shape h) rfl fun B hB => ?_
  refine itemsOpen kvs l hP [] [] [] .nil (fun _ h => nomatch h) fun vs tups h1 h2 c h' tk h3 F' N' => ?_
  exact h B vs tups c h' tk (fun q hq => Nat.ne_of_lt (h3 q hq)) (fun q hq => ⟨Nat.ne_of_gt (h2 q hq).1, (h2 q hq).2⟩) F' N' h1
end
/-- where two ways of a statement meet: one name, one datum, more objects, all off one address -/
def TJoin (h₀ : Heap) (L : Addr) (mD : Str → Option Value) (news : List (Addr × Obj)) (b : Addr) (d : Dat) (s : Shared) (f : Flow) (s' : Shared) : Prop :=
  f = .next ∧ ∃ v tl h' tk u, s' = { s with heap := h', toks := tk } ∧ Fr h₀ L h' (fun y => if y = "told" then some v else if y = "error" then u else mD y) ∧ News h₀ L h' (tl ++ news) ∧ (∀ p ∈ tl, p.1 ≠ b) ∧ DatIn (tl ++ news) v d
theorem join_told {M : Model} {A : Around} {t : Sem Flow} {Q : Flow → Shared → Prop} {E : Value → Shared → Prop} {s : Shared} {h₀ : Heap} {L : Addr} {mD : Str → Option Value} {news : List (Addr × Obj)} (b : Addr) (d : Dat) (F : Fr h₀ L s.heap mD) (N : News h₀ L s.heap news)
    (h1 : wpAny M A t (TJoin h₀ L mD news b d s) E s)
    (h2 : ∀ v tl h' tk u, Fr h₀ L h' (fun y => if y = "told" then some v else if y = "error" then u else mD y) → News h₀ L h' (tl ++ news) → (∀ p ∈ tl, p.1 ≠ b) → DatIn (tl ++ news) v d → Q .next { s with heap := h', toks := tk }) :
    wpAny M A t Q E s := wpAny_mono h1 (fun f s' ⟨hf, v, tl, h', tk, u, hs, F', N', ho, hd⟩ => by subst hf hs; exact h2 v tl h' tk u F' N' ho hd) fun _ _ e => e
end Mine
/-! KJ -/
namespace Mine
open PySem PySem.W PyProof.Rows PySem.Calls
theorem kc5 (w : World) : findIn (hd.heap_39 w.params) (.ref 45) "kind" = some none := by k_is
theorem kc6 (w : World) : findIn (hd.heap_39 w.params) (.ref 45) "at" = some none := by k_is
theorem kc7 (w : World) : hasDictIn (hd.heap_39 w.params) 45 = true := by k_is
section
variable {w : World} {A : Around} {E : Value → Shared → Prop} {s : Shared} {h₀ : Heap} {L x d : Addr} {m : Str → Option Value} {news : List (Addr × Obj)} {oe : Obj} {es : List DictEntry} {n : Nat} {vs : Array Value} {v : Value} {Q : Value → Shared → Prop}
theorem exc_kind {expr : Bool} (F : Fr h₀ L s.heap m) (X : Frag.In (hd.heap_39 w.params) h₀) (N : News h₀ L s.heap news) (hm : (x, oe) ∈ news) (hc : oe.cls = .ref 45) (hd' : oe.dict = some d) (hv' : oe.data = .fields vs) (hdd : (d, dictOf es n) ∈ news) (hg : getL "kind" es = some (some v)) (hv : handedIn v = true)
    (h : Q v { s with toks := s.toks + 1 }) : wpAny (model PG w) A (getAttr (.ref x) "kind" expr) Q E s :=
  exc_get (X.keeps F.keep) (ox := oe) (od := some (dictOf es n)) ⟨(N _ hm).1, hc, by unfold notCls; rw [hv'], by rw [hd']; exact (N _ hdd).1⟩ (line45 w) (kc3 w) (kc4 w) (findObj_own (kc7 w) (kc5 w) rfl hg) hv h
theorem exc_at {expr : Bool} (F : Fr h₀ L s.heap m) (X : Frag.In (hd.heap_39 w.params) h₀) (N : News h₀ L s.heap news) (hm : (x, oe) ∈ news) (hc : oe.cls = .ref 45) (hd' : oe.dict = some d) (hv' : oe.data = .fields vs) (hdd : (d, dictOf es n) ∈ news) (hg : getL "at" es = some (some v)) (hv : handedIn v = true)
    (h : Q v { s with toks := s.toks + 1 }) : wpAny (model PG w) A (getAttr (.ref x) "at" expr) Q E s :=
  exc_get (X.keeps F.keep) (ox := oe) (od := some (dictOf es n)) ⟨(N _ hm).1, hc, by unfold notCls; rw [hv'], by rw [hd']; exact (N _ hdd).1⟩ (line45 w) (kc3 w) (kc4 w) (findObj_own (kc7 w) (kc6 w) rfl hg) hv h
end
section
variable {h₀ : Heap} {L : Addr} {mD m' : Str → Option Value} {news : List (Addr × Obj)} {s s' : Shared} {h' : Heap} {tk : Nat}
theorem tj_list {vs : List Value} {ds : List Dat} {tups tl3 : List (Addr × Obj)} {B b : Addr} {ob : Obj} {c : Nat} {d : Dat} (hs : s' = { s with heap := h', toks := tk }) (F : Fr h₀ L h' (fun y => if y = "told" then some (.ref B) else mD y)) (N : News h₀ L h' (tups ++ (B, W.listOf vs.toArray c) :: (tl3 ++ news)))
    (hb : (b, ob) ∈ news) (hB : ∀ q ∈ tl3 ++ news, q.1 ≠ B) (ht : ∀ q ∈ tups, q.1 ≠ B ∧ ∀ p ∈ tl3 ++ news, p.1 ≠ q.1) (h3 : ∀ p ∈ tl3, p.1 ≠ b) (D : DatAll (tups ++ (tl3 ++ news)) vs ds) (hd : d = .list ds) : TJoin h₀ L mD news b d s .next s' := by
  subst hd hs
  refine ⟨rfl, .ref B, tups ++ (B, W.listOf vs.toArray c) :: tl3, h', tk, mD "error", rfl, ?_, ?_, ?_, ?_⟩
  · have e : (fun y : Str => if y = "told" then some (Value.ref B) else if y = "error" then mD "error" else mD y) = fun y : Str => if y = "told" then some (Value.ref B) else mD y := by
      funext y
      by_cases h1 : y = "told"
      · simp [h1]
      · by_cases h2 : y = "error" <;> simp [h1, h2]
    rw [e]; exact F
  · simpa using N
  · intro p hp
    rcases List.mem_append.mp hp with hp | hp
    · exact ((ht p hp).2 _ (List.mem_append.mpr (.inr hb))).symm
    · rcases List.mem_cons.mp hp with rfl | hp
      · exact (hB _ (List.mem_append.mpr (.inr hb))).symm
      · exact h3 p hp
  · refine .list (vs := vs) (n := c) ?_ (D.mono fun p hp => ?_)
    · simp
    · simp only [List.mem_append, List.mem_cons] at hp ⊢
      rcases hp with h | h | h <;> simp [h]
theorem tj_err {v : Value} {u e : Option Value} {tl : List (Addr × Obj)} {b : Addr} {d : Dat} (hs : s' = { s with heap := h', toks := tk }) (F : Fr h₀ L h' (fun y => if y = "error" then u else if y = "told" then some v else if y = "error" then e else mD y)) (N : News h₀ L h' (tl ++ news)) (h3 : ∀ p ∈ tl, p.1 ≠ b) (D : DatIn (tl ++ news) v d) : TJoin h₀ L mD news b d s .next s' := by
  have hte : ¬ (("told" : Str) = "error") := by decide
  have e : (fun y : Str => if y = "error" then u else if y = "told" then some v else if y = "error" then e else mD y) = fun y : Str => if y = "told" then some v else if y = "error" then u else mD y := by
    funext y
    by_cases h1 : y = "told"
    · subst h1; rw [if_neg hte, if_pos rfl, if_pos rfl]
    · rw [if_neg h1]
      by_cases h2 : y = "error"
      · rw [if_pos h2, if_neg h1, if_pos h2]
      · rw [if_neg h2, if_neg h2, if_neg h1, if_neg h2]
  rw [e] at F
  exact ⟨rfl, v, tl, h', tk, u, hs, F, N, h3, D⟩
end
end Mine
/-! KQ -/
namespace Mine
open PySem PySem.W PyProof.Rows PySem.Calls PyProof.V
section
variable {prog : Program} {w : World} {A : Around} {E : Value → Shared → Prop} {s : Shared} {h₀ : Heap} {L : Addr} {news : List (Addr × Obj)} {a b : Value} {d e : Dat} {Q : Value → Shared → Prop}
theorem dat_eq (N : News h₀ L s.heap news) (Da : DatIn news a d) (Db : DatIn news b d) (hd : kqdOk 8 d = true) (hu : A.units + 64 < cLine) (h : Q (.bool true) s) : wpAny (model prog w) A (compareOp .Eq a b) Q E s := by
  obtain ⟨as, ra⟩ := kqd_in N 8 Da hd
  obtain ⟨bs, rb⟩ := kqd_in N 8 Db hd
  have l := kqd_lay 8 d hd
  have sh : SeqAt.shaped (kqdP d) = true := by
    unfold SeqAt.shaped; rw [l.1, Bool.true_and]; exact decide_eq_true (Nat.le_trans l.2 (by decide))
  exact eq_dataH ra rb sh sh hu (by rw [(kqd_eqv 8 d d 8 hd hd).mpr rfl]; exact h)
theorem dat_ne (N : News h₀ L s.heap news) (Da : DatIn news a d) (Db : DatIn news b d) (hd : kqdOk 8 d = true) (hu : A.units + 64 < cLine) (h : Q (.bool false) s) : wpAny (model prog w) A (compareOp .NotEq a b) Q E s := by
  obtain ⟨as, ra⟩ := kqd_in N 8 Da hd
  obtain ⟨bs, rb⟩ := kqd_in N 8 Db hd
  have l := kqd_lay 8 d hd
  have sh : SeqAt.shaped (kqdP d) = true := by
    unfold SeqAt.shaped; rw [l.1, Bool.true_and]; exact decide_eq_true (Nat.le_trans l.2 (by decide))
  exact ne_dataH ra rb sh sh hu (by rw [(kqd_eqv 8 d d 8 hd hd).mpr rfl]; exact h)
end
theorem nine_ok (p : Str) (hp : p = "s" ∨ p = "t") {i : Int} (h0 : 0 ≤ i) (h1 : i < 9) : PyData.strOk (p ++ Str.ofString (toString i)) = true := by
  have : i = 0 ∨ i = 1 ∨ i = 2 ∨ i = 3 ∨ i = 4 ∨ i = 5 ∨ i = 6 ∨ i = 7 ∨ i = 8 := by omega
  rcases hp with rfl | rfl <;> rcases this with rfl | rfl | rfl | rfl | rfl | rfl | rfl | rfl | rfl <;> decide +kernel
theorem id_ok : PyData.strOk "id" = true := by decide +kernel
theorem k1_ok : PyData.strOk "too_many_ports" = true := by decide +kernel
theorem k2_ok : PyData.strOk "unknown_port" = true := by decide +kernel
theorem k3_ok : PyData.strOk "port_connected_twice" = true := by decide +kernel
theorem k4_ok : PyData.strOk "terminal_count" = true := by decide +kernel
theorem k5_ok : PyData.strOk "primitive_connection" = true := by decide +kernel
theorem cnE_ok {names : List Str} {k : Int} {p : Str} {d : Dat} (hp : p = "s" ∨ p = "t") (h : ConnD names k p d) (n : Nat) : kqdOk (n + 1) (cnE d) = true := by
  obtain ⟨nm, e, rfl, -, he⟩ := h
  rcases he with rfl | ⟨i, h0, h1, rfl⟩
  · rfl
  · simp only [cnE, kqdOk, List.all_cons, List.all_nil, id_ok, nine_ok p hp h0 h1, Bool.true_and]
theorem runC_good {ps : List Str} : ∀ (ds : List Dat) (i : Nat) (left : List (Str × Dat)), (∀ d ∈ ds, kqdOk 6 (cnE d) = true) → (∀ q ∈ left, kqdOk 6 q.2 = true) → (∀ l, runC ps i ds left = .ok l → ∀ q ∈ l, kqdOk 6 q.2 = true) ∧ ∀ k, runC ps i ds left = .error k → PyData.strOk k = true
  | [], i, left, _, h2 => ⟨fun l e => by rw [runC] at e; cases e; exact h2, fun k e => by rw [runC] at e; cases e⟩
  | d :: r, i, left, h1, h2 => by
    rw [runC]
    cases hp : pick ps i d with
    | none => exact ⟨fun l e => (by cases e), fun k e => (by cases e; exact k1_ok)⟩
    | some x =>
      dsimp only
      by_cases hx : x ∈ ps
      · rw [if_pos hx]
        by_cases hl : x ∈ left.map (·.1)
        · rw [if_pos hl]; exact ⟨fun l e => (by cases e), fun k e => (by cases e; exact k3_ok)⟩
        · rw [if_neg hl]
          refine runC_good r (i + 1) _ (fun d hd => h1 d (.tail _ hd)) fun q hq => ?_
          rcases List.mem_append.mp hq with hq | hq
          · exact h2 q hq
          · rw [List.mem_singleton.mp hq]; exact h1 d (.head _)
      · rw [if_neg hx]; exact ⟨fun l e => (by cases e), fun k e => (by cases e; exact k2_ok)⟩
theorem lookD_ok {left : List (Str × Dat)} (h : ∀ q ∈ left, kqdOk 6 q.2 = true) (p : Str) : kqdOk 6 (lookD left p) = true := by
  unfold lookD
  cases hf : left.find? (fun kv => decide (kv.1 = p)) with
  | none => rfl
  | some q => exact h q (List.mem_of_find?_eq_some hf)
theorem resD_ok {ps : List Str} {ds : List Dat} (hok : ∀ p ∈ ps, PyData.strOk p = true) (hC : ∀ d ∈ ds, ConnD NM 3 "s" d) : kqdOk 8 (resD ps (runC ps 0 ds [])) = true := by
  have g := runC_good (ps := ps) ds 0 [] (fun d hd => cnE_ok (.inl rfl) (hC d hd) 5) (fun _ h => nomatch h)
  cases hr : runC ps 0 ds [] with
  | ok l =>
    rw [resD, kqdOk, List.all_eq_true]
    intro x hx
    obtain ⟨p, hp, rfl⟩ := List.mem_map.mp hx
    simp only [kqdOk, List.all_cons, List.all_nil, hok p hp, lookD_ok (g.1 l hr) p, Bool.and_true]
  | error k =>
    simp only [resD, kqdOk, List.all_cons, List.all_nil, g.2 k hr, Bool.and_true]
end Mine
/-! KS -/
namespace Mine
open PySem PySem.W PyProof.Rows PySem.Calls
theorem adjust_upto (c n : Nat) (hc : c ≤ n) : Builtin.Slice.sliceAdjust none (some (c : Int)) 1 (n : Int) = ((0 : Int), (c : Int)) := by
  unfold Builtin.Slice.sliceAdjust
  have h1 : ¬ ((1 : Int) < 0) := by omega
  have h2 : ¬ ((c : Int) < 0) := by omega
  simp only [h1, h2, if_false]
  congr 1
  omega
theorem places_upto (c : Nat) : Builtin.Slice.slicePlaces 0 (c : Int) 1 = c := by
  unfold Builtin.Slice.slicePlaces
  have h1 : (1 : Int) > 0 := by omega
  simp only [h1, if_true, Int.ediv_one]
  split <;> omega
theorem pick_upto (xs : Array Value) (c : Nat) : ((List.range c).filterMap fun (k : Nat) => xs[((0 : Int) + (k : Int) * 1).toNat]?).toArray = (xs.toList.take c).toArray := by
  have e : (fun (k : Nat) => xs[((0 : Int) + (k : Int) * 1).toNat]?) = fun k => xs[k]? := by
    funext k
    have : ((0 : Int) + (k : Int) * 1).toNat = k := by omega
    rw [this]
  rw [e]
  have := pick_run xs 0 c
  rw [List.filterMap_map] at this
  have e2 : ((fun x => xs[x]?) ∘ fun x => 0 + x) = fun k => xs[k]? := by funext k; simp
  rw [e2] at this
  rw [this, List.drop_zero]
section
variable {prog : Program} {w : World} {A : Around} {E : Value → Shared → Prop} {s : Shared}
theorem sliceApplied_upto {sl : Addr} {c n : Nat} {u : Tok} {Q : Int × Int × Nat → Shared → Prop} (hs : s.heap.IsSliceOf sl .none (.int c u) .none) (hc : c ≤ n) (h : Q ((0 : Int), 1, c) s) :
    wpAny (model prog w) A (Builtin.Slice.sliceApplied (.ref sl) (pure (n : Int))) Q E s := by
  obtain ⟨os, hos, hcs, hds⟩ := id hs
  unfold Builtin.Slice.sliceApplied Builtin.Slice.sliceFields
  refine wpAny_bind (wpAny_bind (wpAny_field hos hds (x := .none) rfl (wpAny_bind (wpAny_field hos hds (x := .int c u) rfl (wpAny_bind (wpAny_field hos hds (x := .none) rfl (wpAny_pure ?_)))))))
  refine wpAny_bind (slicePart_none ?_)
  show wpAny _ _ (if ((1 : Int) == 0) = true then _ else _) _ _ s
  rw [if_neg (by decide)]
  refine wpAny_bind (slicePart_none (wpAny_bind (slicePart_int (wpAny_bind (wpAny_pure ?_)))))
  show wpAny _ _ (match Builtin.Slice.sliceAdjust none (some (c : Int)) 1 (n : Int) with | (lo, hi) => pure (lo, (1 : Int), Builtin.Slice.slicePlaces lo hi 1)) _ _ s
  rw [adjust_upto c n hc]
  show wpAny _ _ (pure ((0 : Int), (1 : Int), Builtin.Slice.slicePlaces 0 (c : Int) 1)) _ _ s
  rw [places_upto c]
  exact wpAny_pure h
theorem getItem_tuple_upto {t sl : Addr} {items : Array Value} {c : Nat} {u : Tok} {Q : Value → Shared → Prop} (ht : IsTup s.heap t items) (hs : s.heap.IsSliceOf sl .none (.int c u) .none) (hc : c ≤ items.size)
    (h : c < items.size → Q (.ref s.heap.objs.size) { s with heap := s.heap.push { cls := .type "tuple", data := .seq (items.toList.take c).toArray } }) (h2 : c = items.size → Q (.ref t) s)
    (hsz : items.size ≤ sizeLine) : wpAny (model prog w) A (getItem (.ref t) (.ref sl)) Q E s := by
  have hdrop : sizeOk (.seq (items.toList.take c).toArray) := by
    show (items.toList.take c).toArray.size ≤ sizeLine
    rw [List.size_toArray, List.length_take, Array.length_toList]
    omega
  obtain ⟨os, hos, hcs, hds⟩ := id hs
  have hTs : s.TypeIs (.ref sl) "slice" := ⟨os, hos, hcs⟩
  unfold getItem
  try with_reducible refine wpAny_holding ?_
  first | refine wpAny_bind (wpAny_pure ?_) | skip
  refine wpAny_bind (wpAny_sequenceKey ht.typeIs (by decide) ?_)
  refine wpAny_bind (wpAny_callSpecial?_slot (name := Str.ofString "__getitem__") ht.typeIs slot_tuple_getitem
    (wpAny_call_entry slot_tuple_getitem ht.typeIs entry_tuple_getitem ?_ (args_tuple_getitem _ _)))
  show wpAny _ _ (Builtin.Tuple.tupleItemsOf (.ref t) >>= _) _ _ s
  refine wpAny_bind (tupleItemsOf_ ht ?_)
  refine wpAny_bind (wpAny_typeOf hTs ?_)
  rw [if_pos (by decide)]
  refine wpAny_bind (sliceApplied_upto hs hc ?_)
  show wpAny _ _ (if ((0 : Int) == 0 && (1 : Int) == 1 && c == items.size) = true then _ else _) _ _ s
  by_cases hq : c = items.size
  · have hyes : ((0 : Int) == 0 && (1 : Int) == 1 && c == items.size) = true := by rw [hq]; simp
    rw [if_pos hyes]
    refine wpAny_bind ?_
    unfold Builtin.Tuple.tupleIsExact
    refine wpAny_bind (wpAny_typeOf ht.typeIs ?_)
    refine wpAny_pure ?_
    rw [if_pos (by decide)]
    refine wpAny_bind (wpAny_rule ?_)
    refine wpAny_pure (a := Fin.done (Flow.ret (Value.ref t))) ?_
    exact ⟨_, rfl, wpAny_pure (h2 hq)⟩
  · have hno : ¬ (((0 : Int) == 0 && (1 : Int) == 1 && c == items.size) = true) := by
      have : (c == items.size) = false := beq_eq_false_iff_ne.mpr hq
      rw [this]; simp
    rw [if_neg hno, pick_upto items c]
    have h := h (by omega)
    first
      | exact wpAny_bind (m := Builtin.Tuple.tupleExact _) (wpAny_newObj_type (wpAny_pure ⟨_, rfl, wpAny_pure h⟩) hdrop)
      | exact wpAny_bind (m := Builtin.Tuple.tupleExact _) (wpAny_newObj_type (wpAny_bind (wpAny_pure (wpAny_pure ⟨_, rfl, wpAny_pure h⟩))) hdrop)
      | exact wpAny_bind (wpAny_bind (m := Builtin.Tuple.tupleExact _) (wpAny_newObj_type (wpAny_pure (wpAny_pure ⟨_, rfl, wpAny_pure h⟩)) hdrop))
      | exact wpAny_bind (wpAny_bind (m := Builtin.Tuple.tupleExact _) (wpAny_newObj_type (wpAny_pure ⟨_, rfl, wpAny_pure h⟩) hdrop))
end
section
variable {prog : Program} {w : World} {A : Around} {E : Value → Shared → Prop} {s : Shared} {h₀ : Heap} {L : Addr} {m : Str → Option Value} {rest : List (Addr × Obj)}
theorem tail_opsT {value slice : PySem.Expr} {o i : Value} {T id : String} {ops : List Value} {Q : Value → Shared → Prop} (hT : s.TypeIs o T)
    (hl : typeLookup (.type T) "__getitem__" = pure (some (.builtin id))) (h : wpAny (model prog w) A (getItem o i) Q E s)
    (hs : subscripted slice false o i = operate ops (getItem o i)) :
    wpAny (model prog w) A (subscriptTail value slice o i) Q E s := by
  unfold subscriptTail
  refine wpAny_bind ?_
  rw [getitemInPython_of_ne hT.not_modules]
  refine wpAny_bind (wpAny_specialOf hT hl ?_)
  have fin : wpAny (model prog w) A (subscripted slice false o i) (fun r s₃ => wpAny (model prog w) A (letTemporaryGo value o r >>= fun _ => pure r) Q E s₃) E s := by
    rw [hs]
    exact wpAny_operating (wpAny_mono h (fun r s₃ h₃ => wpAny_bind (wpAny_letTemporaryGo (wpAny_pure h₃))) fun _ _ x => x)
  first
    | exact wpAny_pure (wpAny_bind fin)
    | exact wpAny_bind (wpAny_pure (wpAny_bind fin))
    | exact wpAny_bind fin
theorem slice_tup_upto {value slice : PySem.Expr} {t : Addr} {us : List Value} {c : Nat} {y : Int} {u : Tok} {Q : Value → Shared → Prop}
    (F : Fr h₀ L s.heap m) (N : News h₀ L s.heap ((t, tupOf us 0) :: rest)) (l1 : ∀ p ∈ rest, p.1 < t) (hy : y = (c : Int)) (hc : c ≤ us.length) (hsz : us.length ≤ 1000)
    (h : ∀ b h', Fr h₀ L h' m → News h₀ L h' ((b, tupOf (us.take c) 0) :: rest) → (∀ p ∈ rest, p.1 < b) → Q (.ref b) { s with heap := h' })
    (hs : subscripted slice false (.ref t) (.ref s.heap.objs.size) = operate [.ref s.heap.objs.size, .ref t] (getItem (.ref t) (.ref s.heap.objs.size))) :
    wpAny (model prog w) A (subscriptTail value slice (.ref t) (.ref s.heap.objs.size)) Q E { s with heap := s.heap.push { cls := .type "slice", data := .fields #[.none, .int y u, .none] } } := by
  subst hy
  have ht : IsTup s.heap t us.toArray := News.isTup N (.head _)
  have ht' : IsTup (s.heap.push { cls := .type "slice", data := .fields #[.none, .int c u, .none] }) t us.toArray := ht.keeps fun _ _ e => Heap.get?_push_of_some _ e
  refine tail_opsT (s := { s with heap := s.heap.push { cls := .type "slice", data := .fields #[.none, .int c u, .none] } }) ht'.typeIs slot_tuple_getitem.lookup
    (getItem_tuple_upto ht' (Heap.IsSliceOf.new ..) (by rw [List.size_toArray]; exact hc) (fun _ => ?_) (fun hq => ?_) (by rw [List.size_toArray, sizeLine_eq]; omega)) hs
  · have N1 := News.push (F.push { cls := .type "slice", data := .fields #[.none, .int c u, .none] }) (N.grown fun _ _ e => Heap.get?_push_of_some _ e) { cls := .type "tuple", data := .seq (us.take c).toArray }
    rw [Heap.size_push] at N1
    show Q (.ref (s.heap.push _).objs.size) _
    rw [Heap.size_push]
    refine h _ _ ((F.push _).push _) (fun p hp => N1 p ?_) fun p hp => Nat.lt_succ_of_lt (Heap.lt_size (N p (.tail _ hp)).1)
    rcases List.mem_cons.mp hp with rfl | hp
    · exact .head _
    · exact .tail _ (.tail _ hp)
  · rw [List.size_toArray] at hq
    refine h t _ (F.push _) ?_ l1
    rw [List.take_of_length_le (by omega)]
    exact N.grown fun _ _ e => Heap.get?_push_of_some _ e
end
theorem inputs_pick {h₀ h : Heap} {L b : Addr} {rest : List (Addr × Obj)} {t1 t2 t3 t4 : Tok} {c : Nat} (N : News h₀ L h ((b, tupOf (List.take c [.str "x" t1, .str "y" t2, .str "z" t3, .str "w" t4]) 0) :: rest)) : ∃ vi, News h₀ L h ((b, tupOf vi 0) :: rest) ∧ StrsD vi (I4.take c) := ⟨_, N, StrsD.take (strs4 "x" "y" "z" "w" t1 t2 t3 t4) c⟩
theorem prim_pick {h₀ h : Heap} {L dx : Addr} {p1 p2 : Addr × Obj} {es : List DictEntry} {n : Nat} {rest : List (Addr × Obj)} {v : Value} (N : News h₀ L h (p1 :: p2 :: (dx, dictOf es n) :: rest)) (hg : getL "inputs" es = some (some v)) : ∃ es n, News h₀ L h (p1 :: p2 :: (dx, dictOf es n) :: rest) ∧ getL "inputs" es = some (some v) := ⟨es, n, N, hg⟩
end Mine
/-! PL5 -/
namespace Mine
open PySem PySem.W PyProof.Rows PySem.Calls
theorem keep_one {h₀ h : Heap} {L : Addr} {p : Addr × Obj} {led : List (Addr × Obj)} (N : News h₀ L h led) (hm : p ∈ led) : News h₀ L h [p] := fun q hq => by
  rw [List.mem_singleton.mp hq]; exact N _ hm
end Mine
namespace Mine
open PySem PySem.W PyProof.Rows PySem.Calls
theorem connX_n {k p} : ConnD ["x"] k p (.tuple [.str "x", .none]) := ⟨_, _, rfl, .inr ⟨_, rfl, .head _⟩, .inl rfl⟩
theorem connX_e {k p} {i : Int} (h0 : 0 ≤ i) (h1 : i < 9) : ConnD ["x"] k p (.tuple [.str "x", .tuple [.str "id", .int k, .str (p ++ Str.ofString (toString i))]]) := ⟨_, _, rfl, .inr ⟨_, rfl, .head _⟩, .inr ⟨i, h0, h1, rfl⟩⟩
end Mine
namespace Mine
open PySem PySem.W PyProof.Rows PySem.Calls
section
variable {prog : Program} {w : World} {A : Around} {E : Value → Shared → Prop} {s : Shared} {h₀ : Heap} {L l : Addr}
theorem lst_lenD {news led : List (Addr × Obj)} {us : List Value} {ds : List Dat} {n : Nat} {Q : Value → Shared → Prop} (N : News h₀ L s.heap news) (hm : (l, W.listOf us.toArray n) ∈ news) (hd : DatAll led us ds) (hf : ds.length ≤ 1000)
    (h : Q (.int ds.length (s.toks + 1)) { s with toks := s.toks + 1 + 1 }) : wpAny (model prog w) A (call (.builtin "len") [.ref l]) Q E s := by
  have e := hd.length
  have hl : s.heap.IsList l us.toArray := ⟨_, (N _ hm).1, rfl, n, rfl⟩
  exact len_list hl (by simp; omega) (by simp only [List.size_toArray, e]; exact h)
theorem ne_nil {news led : List (Addr × Obj)} {a b : Addr} {xs : List Value} {ka kb : Nat} {ds : List Dat} {c : Bool} {Q : Value → Shared → Prop} (N : News h₀ L s.heap news) (ma : (a, W.listOf xs.toArray ka) ∈ news) (Da : DatAll led xs ds) (sa : ∀ p ∈ led, p ∈ news) (mb : (b, W.listOf #[] kb) ∈ news)
    (ha : ∀ d ∈ ds, kqdOk 8 d = true) (hu : A.units + 64 < cLine) (hc : (ds = [] ↔ c = false)) (h : Q (.bool c) s) : wpAny (model prog w) A (compareOp .NotEq (.ref a) (.ref b)) Q E s := by
  refine kqd_ne (n₂ := []) (es := []) (ys := []) N ma rfl rfl Da sa mb rfl rfl .nil (fun _ h => nomatch h) ha (fun _ h => nomatch h) hu ?_
  cases c with
  | false => rw [decide_eq_true (hc.mpr rfl)]; exact h
  | true => rw [decide_eq_false (fun q => Bool.noConfusion (hc.mp q))]; exact h
open Classical in
theorem none_in {news led : List (Addr × Obj)} {a : Addr} {xs : List Value} {ka : Nat} {ds : List Dat} {c : Bool} {Q : Value → Shared → Prop} (N : News h₀ L s.heap news) (ma : (a, tupOf xs ka) ∈ news) (Da : DatAll led xs ds) (sa : ∀ p ∈ led, p ∈ news)
    (ha : ∀ d ∈ ds, kqdOk 8 d = true) (hu : A.units + 64 < cLine) (hc : (Dat.none ∈ ds ↔ c = true)) (h : Q (.bool c) s) : wpAny (model prog w) A (compareOp .In .none (.ref a)) Q E s := by
  obtain ⟨as, ra⟩ := kqd_all N 8 (Da.mono sa) ha
  have l := kqd_layL ha
  have e : ((kqdPs ds).any fun y => PyData.eqv y (kqdP .none)) = c := by
    cases c with
    | true => exact (kqd_any ds .none ha rfl).mpr (hc.mpr rfl)
    | false => exact Bool.eq_false_iff.mpr fun z => Bool.noConfusion (hc.mp ((kqd_any ds .none ha rfl).mp z))
  refine SeqAt.in_tuple_reads (reads_tuple_at (N.get ma) rfl rfl (by simpa using ra)) (x := .none) (d := kqdP .none) Reads.none l.1 rfl ?_ (by rw [e]; exact h)
  have : min (PyData.depthAll (kqdPs ds)) (kqdP .none).depth ≤ 0 := Nat.min_le_right _ _
  omega
end
/-- what the law holds for due -/
def dueD (k : Nat) (ds : List Dat) : Dat := match runP k ds with
  | .ok _ => .tuple (ds.map cnE)
  | .error x => .tuple [.str x, .int 9]
theorem dueD_ok {k : Nat} {ds : List Dat} (h : runP k ds = .ok ()) : dueD k ds = .tuple (ds.map cnE) := by rw [dueD, h]
theorem dueD_err {k : Nat} {ds : List Dat} {x : Str} (h : runP k ds = .error x) : dueD k ds = .tuple [.str x, .int 9] := by rw [dueD, h]
theorem cnE_all {names : List Str} {k : Int} {ds : List Dat} (h : ∀ d ∈ ds, ConnD names k "t" d) (n : Nat) : ∀ e ∈ ds.map cnE, kqdOk (n + 1) e = true := fun e he => by
  obtain ⟨d, hd, rfl⟩ := List.mem_map.mp he
  exact cnE_ok (.inr rfl) (h d hd) n
theorem runP_kinds {k : Nat} {ds : List Dat} {x : Str} (h : runP k ds = .error x) : x = "terminal_count" ∨ x = "primitive_connection" := by
  unfold runP at h
  split at h
  · split at h
    · cases h; exact .inr rfl
    · cases h
  · cases h; exact .inl rfl
theorem dueD_good {names : List Str} {k : Int} {m : Nat} {ds : List Dat} (h : ∀ d ∈ ds, ConnD names k "t" d) : kqdOk 8 (dueD m ds) = true := by
  cases hr : runP m ds with
  | ok u =>
    rw [dueD_ok hr, kqdOk, List.all_eq_true]
    exact cnE_all h 6
  | error x =>
    rw [dueD_err hr]
    rcases runP_kinds hr with rfl | rfl
    · simp only [kqdOk, List.all_cons, List.all_nil, k4_ok, Bool.and_true]
    · simp only [kqdOk, List.all_cons, List.all_nil, k5_ok, Bool.and_true]
def keepN : Value → Bool
  | .none => false
  | _ => true
theorem first_all {led : List (Addr × Obj)} {vc : List Value} {ds : List Dat} {k : Int} {p : Str} : DatAll led vc ds → (∀ d ∈ ds, ConnD ["x"] k p d) →
    ∃ ns : List Value, (∀ (i : Nat) (v : Value), vc[i]? = some v → ∃ a vn ve nn, v = Value.ref a ∧ (a, ({ cls := .type "tuple", data := .seq [vn, ve].toArray nn } : Obj)) ∈ led ∧ ns[i]? = some vn ∧ (vn = .none ∨ ∃ t, vn = .str "x" t)) ∧
      ∀ n, ∃ es, DatAll led (sel (fun i => keepN (ns.getD i .none)) (fun i => ns.getD i .none) n) es ∧ (∀ e ∈ es, kqdOk 8 e = true) ∧ (es = [] ↔ ∀ d ∈ ds.take n, cnName d = none) := by
  intro hD hC
  have H : ∃ ns : List Value, (∀ (i : Nat) (v : Value), vc[i]? = some v → ∃ a vn ve nn, v = Value.ref a ∧ (a, ({ cls := .type "tuple", data := .seq [vn, ve].toArray nn } : Obj)) ∈ led ∧ ns[i]? = some vn ∧ (vn = .none ∨ ∃ t, vn = .str "x" t)) ∧
      ∀ i, (∀ d, ds[i]? = some d → ((ns.getD i .none = .none ∧ cnName d = none) ∨ ∃ t, ns.getD i .none = .str "x" t ∧ (cnName d).isSome = true)) ∧ (ds[i]? = none → ns.getD i .none = .none) := by
    induction ds generalizing vc with
    | nil =>
      cases hD
      exact ⟨[], fun i v h => (by simp at h), fun i => ⟨fun d h => (by simp at h), fun _ => rfl⟩⟩
    | cons d ds ih =>
      cases hD with
      | cons h r =>
        obtain ⟨ns, h1, h2⟩ := ih r fun d hd => hC d (.tail _ hd)
        obtain ⟨a, vn, ve, nn, rfl, hm, _, hn⟩ := connD_open h (hC _ (.head _))
        refine ⟨vn :: ns, fun i v hv => ?_, fun i => ?_⟩
        · cases i with
          | zero =>
            simp only [List.getElem?_cons_zero, Option.some.injEq] at hv
            subst hv
            refine ⟨a, vn, ve, nn, rfl, hm, rfl, ?_⟩
            rcases hn with ⟨rfl, _⟩ | ⟨x, t, rfl, hx, _⟩
            · exact .inl rfl
            · rw [List.mem_singleton.mp hx]; exact .inr ⟨t, rfl⟩
          | succ i => simp only [List.getElem?_cons_succ] at hv ⊢; exact h1 i v hv
        · cases i with
          | zero =>
            refine ⟨fun e he => ?_, fun he => by simp at he⟩
            simp only [List.getElem?_cons_zero, Option.some.injEq] at he
            subst he
            rcases hn with ⟨rfl, hx⟩ | ⟨x, t, rfl, hx, hs⟩
            · exact .inl ⟨rfl, hx⟩
            · rw [List.mem_singleton.mp hx]; exact .inr ⟨t, rfl, by rw [hs]; rfl⟩
          | succ i => simpa using h2 i
  obtain ⟨ns, h1, h2⟩ := H
  refine ⟨ns, h1, fun n => ?_⟩
  have hx : kqdOk 8 (.str "x") = true := by decide +kernel
  induction n with
  | zero => exact ⟨[], .nil, (fun _ h => nomatch h), by simp⟩
  | succ n ih =>
    obtain ⟨es, e1, e2, e3⟩ := ih
    rw [sel]
    cases hn : ds[n]? with
    | none =>
      have hk := (h2 n).2 hn
      rw [hk, keepN, if_neg (by decide), List.append_nil]
      refine ⟨es, e1, e2, ?_⟩
      rw [e3, List.take_add_one, hn]
      simp
    | some d =>
      rcases (h2 n).1 d hn with ⟨hk, hc⟩ | ⟨t, hk, hc⟩
      · rw [hk, keepN, if_neg (by decide), List.append_nil]
        refine ⟨es, e1, e2, ?_⟩
        rw [e3, List.take_add_one, hn]
        simp only [List.mem_append, Option.toList_some, List.mem_singleton]
        constructor
        · rintro q x (hx | rfl)
          · exact q x hx
          · exact hc
        · exact fun q x hx => q x (.inl hx)
      · rw [hk, if_pos (show keepN (.str "x" t) = true from rfl)]
        refine ⟨es ++ [.str "x"], e1.append (.one (.str _ _)), fun e he => ?_, ?_⟩
        · rcases List.mem_append.mp he with he | he
          · exact e2 e he
          · rw [List.mem_singleton.mp he]; exact hx
        · rw [List.take_add_one, hn]
          constructor
          · intro q; simp at q
          · intro q
            have := q d (by simp)
            rw [this] at hc
            cases hc
theorem none_mem {ds : List Dat} : Dat.none ∈ ds.map cnE ↔ ∃ d ∈ ds, isNoneD (cnE d) = true := by
  constructor
  · intro h
    obtain ⟨d, hd, e⟩ := List.mem_map.mp h
    exact ⟨d, hd, by rw [e]; rfl⟩
  · rintro ⟨d, hd, e⟩
    refine List.mem_map.mpr ⟨d, hd, ?_⟩
    revert e
    cases cnE d <;> intro e <;> first | rfl | cases e
end Mine
namespace Mine
open PySem PySem.W PyProof.Rows PySem.Calls
theorem in_tl {p q : Addr × Obj} {tl led : List (Addr × Obj)} (h : p ∈ led) : p ∈ q :: (tl ++ led) := .tail _ (List.mem_append.mpr (.inr h))
end Mine
/-! PL6 -/
namespace Mine
open PySem PySem.W PyProof.Rows PySem.Calls
/-- where the ways of the law's test meet: due holds one datum -/
def DJoin (h₀ : Heap) (L : Addr) (mD : Str → Option Value) (news : List (Addr × Obj)) (d : Dat) (s : Shared) (f : Flow) (s' : Shared) : Prop :=
  f = .next ∧ ∃ v tl h' tk, s' = { s with heap := h', toks := tk } ∧ Fr h₀ L h' (fun y => if y = "due" then some v else mD y) ∧ News h₀ L h' (tl ++ news) ∧ DatIn (tl ++ news) v d
theorem join_due {M : Model} {A : Around} {t : Sem Flow} {Q : Flow → Shared → Prop} {E : Value → Shared → Prop} {s : Shared} {h₀ : Heap} {L : Addr} {mD : Str → Option Value} {news : List (Addr × Obj)} (d : Dat) (F : Fr h₀ L s.heap mD) (N : News h₀ L s.heap news)
    (h1 : wpAny M A t (DJoin h₀ L mD news d s) E s)
    (h2 : ∀ v tl h' tk, Fr h₀ L h' (fun y => if y = "due" then some v else mD y) → News h₀ L h' (tl ++ news) → DatIn (tl ++ news) v d → Q .next { s with heap := h', toks := tk }) :
    wpAny M A t Q E s := wpAny_mono h1 (fun f s' ⟨hf, v, tl, h', tk, hs, F', N', hd⟩ => by subst hf hs; exact h2 v tl h' tk F' N' hd) fun _ _ e => e
section
variable {h₀ : Heap} {L : Addr} {mD m' : Str → Option Value} {news led : List (Addr × Obj)} {s s' : Shared} {h' : Heap} {tk : Nat} {v : Value} {d : Dat}
theorem dj_set (tl : List (Addr × Obj)) (hs : s' = { s with heap := h', toks := tk }) (F : Fr h₀ L h' m') (hm : ∀ y : Str, m' y = if y = "due" then some v else mD y) (N : News h₀ L h' led) (sub : ∀ p ∈ tl ++ news, p ∈ led) (D : DatIn (tl ++ news) v d) : DJoin h₀ L mD news d s .next s' := by
  obtain rfl : m' = fun y : Str => if y = "due" then some v else mD y := funext hm
  exact ⟨rfl, v, tl, h', tk, hs, F, fun p hp => N p (sub p hp), D⟩
end
end Mine
namespace Mine
open PySem PySem.W PyProof.Rows PySem.Calls
section
variable {h₀ : Heap} {L : Addr} {mD : Str → Option Value} {news led : List (Addr × Obj)} {s s' : Shared} {h' : Heap} {tk : Nat} {v : Value} {d : Dat}
theorem dj_keep (tl : List (Addr × Obj)) (hs : s' = { s with heap := h', toks := tk }) (F : Fr h₀ L h' mD) (hv : mD "due" = some v) (N : News h₀ L h' led) (sub : ∀ p ∈ tl ++ news, p ∈ led) (D : DatIn (tl ++ news) v d) : DJoin h₀ L mD news d s .next s' := by
  refine dj_set tl hs F (fun y => ?_) N sub D
  by_cases h : y = "due"
  · rw [if_pos h, h]; exact hv
  · rw [if_neg h]
end
theorem names_bad {ds : List Dat} (h : ¬ ∀ d ∈ ds, cnName d = none) : ∃ d ∈ ds, badD d = true := by
  obtain ⟨d, hd⟩ := Classical.not_forall.mp h
  obtain ⟨hm, hn⟩ := Classical.not_imp.mp hd
  refine ⟨d, hm, ?_⟩
  cases hc : cnName d with
  | none => exact absurd hc hn
  | some x => rw [badD, hc]; rfl
end Mine
/-! PL7 -/
namespace Mine
open PySem PySem.W PyProof.Rows PySem.Calls PyProof.V PyProof.Rows.LCg PySem.Spec
theorem tests_one {M : Model} {A : Around} {c : PySem.Expr} {env : Env} {Q : Bool → Shared → Prop} {E : Value → Shared → Prop} {s : Shared} (h : wpAny M A (isTrue c env (eval c env)) Q E s) : wpAny M A (testsOf [c] env) Q E s := by
  unfold testsOf
  rw [List.forIn_cons]
  refine wpAny_bind ?_
  rw [if_pos rfl]
  refine wpAny_bind (wpAny_mono h (fun ok s' q => wpAny_pure ?_) fun _ _ e => e)
  dsimp only
  rw [List.forIn_nil]
  exact wpAny_pure q
end Mine
/-! PL8 -/
namespace Mine
open PySem PySem.W PyProof.Rows PySem.Calls
/-- the law's end: True, nothing of the caller's changed -/
theorem good_true {cl : Str → Option Addr} {mean : ExcName → Option Value} {args : List WData} {s₁ s' : Shared} {L : Addr} {m : Str → Option Value} (F : Fr s₁.heap L s'.heap m) (ho : s'.os = s₁.os) (hg : s'.gens = #[]) :
    GoodW PySem.Challenge.rw_pq0443_01.row.claim cl mean args s₁ (.ok (.ret (.bool true))) s' :=
  ⟨.inl ⟨.bool true, .bool true, [], rfl, fun _ => rfl, .bool true, by with_unfolding_all rfl, fun _ => ⟨.nil, fun _ h => nomatch h⟩⟩, F.keep, ho, hg⟩
end Mine
/-! C7 -/
namespace Mine
open PySem PySem.W PyProof.Rows PySem.Calls
local macro_rules | `(tactic| walk_at "call ref") => `(tactic| (k_here; k_dflt (first
  | (refine' bolts_ct ?B ?F ?X ?N ?hL ?I ?T ?hk ?hd ?hu ?hl ?_; (case B => k_asm); (case F => k_asm); (case X => k_asm); (case N => k_asm); (case hL => assumption); (case I => assumption); (case T => k_asm); (case hk => first | exact rfl | assumption); (case hd => ktr_room); (case hu => ktr_units); (case hl => first | assumption | omega); k_whole; intro b' vs' ns' n' h' tk' F' N' O' I' hl'; (try dsimp only); (try k_fold))
  | (refine' bolt_at ?B ?F ?X ?N ?U ?I ?T ?hk ?hd ?hu ?h0 ?h1 ?hl ?_; (case B => k_asm); (case F => k_asm); (case X => k_asm); (case N => k_asm); (case U => k_updF); (case I => k_asm); (case T => k_asm); (case hk => first | exact rfl | assumption); (case hd => ktr_room); (case hu => ktr_units); (case h0 => omega); (case h1 => omega); (case hl => omega); k_whole; intro r t' vs' ns' n' h' tk' F' N' I' hl' h0' h1'; (try dsimp only at N'); (have hz' := allLt_of (fun p hp => Heap.lt_size (N' p hp).1)); (try simp only [AllLt, and_true] at hz'); (try dsimp only); (try k_fold)))))

local macro_rules | `(tactic| walk_at "call type:tuple") => `(tactic| (k_here; (with_reducible show wpAny _ _ (call (Value.type _) [Value.ref _]) _ _ _); k_dflt (refine' kde_tupleOf ?k1 ?k2 ?k3 ?k4 ?k5 ?_; (case k1 => k_asm); (case k2 => k_asm); (case k3 => exact News.isList (by k_asm) (by k_mem)); (case k4 => (simp only [List.size_toArray]; omega)); (case k5 => exact rfl); k_whole); intro D' h' F' N' l1'))

local macro_rules | `(tactic| walk_at "call type:range") => `(tactic| (k_here; (rename Fr _ _ _ _ => F'); (rename News _ _ _ _ => N'); (with_unfolding_all refine range1_rows F' N' ?_; intro _ _ _ _ _ _ _ _ _)))
theorem whole : PySem.Challenge.rw_pq0443_01.Holds := hd (by
  k_with_none
  k_go0
  (all_goals try k_fold)
  have hMk := kstMark
  have hMk2 := kdMark
  rename (¬ ((63 : Nat) : Int) < _) => h63
  rename IntsAre _ _ => hI0
  have h63' := Int.not_lt.mp h63
  have hl63 := Int.ofNat_le.mp h63'
  (repeat' ((fail_if_success (with_reducible show wpAny _ _ (call (Value.ref 101) _) _ _ _)); (fail_if_success (with_reducible show wpAny _ _ (call (Value.ref 59) _) _ _ _)); (fail_if_success (with_reducible show wpAny _ _ (call (Value.ref 106) _) _ _ _)); (fail_if_success (with_reducible show wpAny _ _ (call (Value.ref 52) _) _ _ _)); (fail_if_success (with_reducible show wpAny _ _ (pyIter _) _ _ _)); (fail_if_success (with_reducible show wpAny _ _ (eval (Expr.ListComp _ _ _ _) _) _ _ _)); (fail_if_success (with_reducible show wpAny _ _ (exec (Stmt.Try _ _ _ _ _) _) _ _ _)); (first | (k_unfold; (try dsimp only)) | (k_end; wrow_close) | walk1 | (dsimp only; walk1) | (leave1; walk_say "STEP leave1"; try dsimp only) | fail "no step")))
  rename_i bT _ _ _ _ _ _ I60 hl60 _ _ lQ _ _ r _ vT nT kT h5 _ IT hlT h0r h1r hz5 _ _ lN _ FP NP lP
  dsimp only at FP NP
  have hbp : bT < h5.objs.size + 1 := Nat.lt_succ_of_lt hz5.2
  generalize h5.objs.size + 1 = lp at FP NP lP hbp
  obtain ⟨k, vp, hk1, hk4, hpk, hSP⟩ := pick4s "a" "b" "c" "d" _ _ _ _ h0r h1r
  rw [hpk] at NP
  clear hpk
  generalize hps : List.take k P4 = ps at hSP
  have hps4 : ps.length ≤ 4 := by rw [← hps, List.length_take]; simp; omega
  have hpok : ∀ p ∈ ps, PyData.strOk p = true := fun p hp => p4_ok p (List.mem_of_mem_take (hps ▸ hp))
  have hpnd : ps.Nodup := hps ▸ (List.Nodup.sublist (List.take_sublist _ _) p4_nodup)
  have hOc : OwnOff [(lp, W.listOf vp.toArray 0)] [bT, lN] := by
    intro p hp b hb
    rw [List.mem_singleton.mp hp]
    simp only [List.mem_cons, List.not_mem_nil, or_false] at hb
    rcases hb with rfl | rfl
    · exact Nat.ne_of_gt hbp
    · exact Nat.ne_of_lt lP.1
  k_dflt (refine' conns_ct (l := bT) (l2 := lN) (rest := [(lp, W.listOf vp.toArray 0)]) ?B ?F ?X ?N ?O ?hne ?I ?T ?hk ?hd ?hu ?hl ?_; (case B => k_asm); (case F => exact FP); (case X => k_asm); (case N => exact re412 NP); (case O => exact hOc); (case hne => exact Nat.ne_of_gt lP.2.2); (case I => exact IT); (case T => k_asm); (case hk => exact rfl); (case hd => ktr_room); (case hu => ktr_units); (case hl => omega); k_whole)
  intro bC us ds vT2 nT2 kT2 nC tl2 h6 tk6 FC NC IC hlC hOC hmC hDC hd5 hCC
  have hvp4 : vp.length ≤ 4 := by rw [hSP.length]; exact hps4
  (repeat' ((fail_if_success (with_reducible show wpAny _ _ (call (Value.ref 101) _) _ _ _)); (fail_if_success (with_reducible show wpAny _ _ (call (Value.ref 59) _) _ _ _)); (fail_if_success (with_reducible show wpAny _ _ (call (Value.ref 106) _) _ _ _)); (fail_if_success (with_reducible show wpAny _ _ (call (Value.ref 52) _) _ _ _)); (fail_if_success (with_reducible show wpAny _ _ (pyIter _) _ _ _)); (fail_if_success (with_reducible show wpAny _ _ (eval (Expr.ListComp _ _ _ _) _) _ _ _)); (fail_if_success (with_reducible show wpAny _ _ (exec (Stmt.Try _ _ _ _ _) _) _ _ _)); (first | (k_unfold; (try dsimp only)) | (k_end; wrow_close) | walk1 | (dsimp only; walk1) | (leave1; walk_say "STEP leave1"; try dsimp only) | fail "no step")))
  refine join_told bT (resD ps (runC ps 0 ds [])) (by assumption) (by assumption) ?first ?second
  case first =>
    (repeat' ((fail_if_success (with_reducible show wpAny _ _ (call (Value.ref 101) _) _ _ _)); (fail_if_success (with_reducible show wpAny _ _ (call (Value.ref 59) _) _ _ _)); (fail_if_success (with_reducible show wpAny _ _ (call (Value.ref 106) _) _ _ _)); (fail_if_success (with_reducible show wpAny _ _ (call (Value.ref 52) _) _ _ _)); (fail_if_success (with_reducible show wpAny _ _ (pyIter _) _ _ _)); (fail_if_success (with_reducible show wpAny _ _ (eval (Expr.ListComp _ _ _ _) _) _ _ _)); (first | (k_unfold; (try dsimp only)) | (k_end; wrow_close) | walk1 | (dsimp only; walk1) | (leave1; walk_say "STEP leave1"; try dsimp only) | fail "no step")))
    with_reducible rename Fr _ _ _ _ => F9
    with_reducible rename News _ _ _ _ => N9
    k_dflt (refine' kde_tupleOf (items := vp.toArray) (zs := vp) ?k1 ?k2 ?k3 ?k4 ?k5 ?_; (case k1 => exact F9); (case k2 => exact N9); (case k3 => exact ⟨_, (N9 (lp, W.listOf vp.toArray 0) (.tail _ (List.mem_append.mpr (.inr (.head _))))).1, rfl, _, rfl⟩); (case k4 => (rw [List.size_toArray]; omega)); (case k5 => exact rfl); k_whole)
    intro lt ht FT NT lT
    (repeat' ((fail_if_success (with_reducible show wpAny _ _ (call (Value.ref 101) _) _ _ _)); (fail_if_success (with_reducible show wpAny _ _ (call (Value.ref 59) _) _ _ _)); (fail_if_success (with_reducible show wpAny _ _ (call (Value.ref 106) _) _ _ _)); (fail_if_success (with_reducible show wpAny _ _ (call (Value.ref 52) _) _ _ _)); (fail_if_success (with_reducible show wpAny _ _ (pyIter _) _ _ _)); (fail_if_success (with_reducible show wpAny _ _ (eval (Expr.ListComp _ _ _ _) _) _ _ _)); (first | (k_unfold; (try dsimp only)) | (k_end; wrow_close) | walk1 | (dsimp only; walk1) | (leave1; walk_say "STEP leave1"; try dsimp only) | fail "no step")))
    have hsubT : ∀ p ∈ tl2 ++ [(lp, W.listOf vp.toArray 0)], p ∈ (lt, ({ cls := .type "tuple", data := .seq vp.toArray } : Obj)) :: (bT, W.listOf vT2.toArray kT2) :: (tl2 ++ [(lp, W.listOf vp.toArray 0)]) := fun p hp => .tail _ (.tail _ hp)
    k_dflt (refine' match_ct (lp := lt) (lc := bC) (vp := vp) (vc := us) (ps := ps) (ds := ds) ?B ?F ?X ?N ?hp ?hS ?hps ?hok ?hnd ?hc ?hD ?hC ?hd5 ?T ?hk ?hd ?hu ?ret ?exc; (case B => k_asm); (case F => exact FT); (case X => k_asm); (case N => exact NT); (case hp => exact .head _); (case hS => exact hSP); (case hps => exact hps4); (case hok => exact hpok); (case hnd => exact hpnd); (case hc => exact hsubT _ (List.mem_append.mpr (.inl hmC))); (case hD => exact hDC.mono hsubT); (case hC => exact hCC); (case hd5 => exact hd5); (case T => k_asm); (case hk => exact rfl); (case hd => ktr_room); (case hu => ktr_units))
    case ret =>
      intro b o kvs left h7 tk7 F7 N7 hne7 hlo7 hdict hrun hPr
      (k_with "call builtin:dict.items" => (k_dflt (refine' kdx_view (od := o) (kvs := kvs) (knd := PySem.strKind PG w) ?k1 ?k2 ?k3 ?k4 ?k5 ?_; (case k1 => k_asm); (case k2 => k_asm); (case k3 => k_mem); (case k4 => assumption); (case k5 => assumption); k_whole); intro vw hvw Fvw Nvw hltv))
      have hkl := hPr.length
      rw [List.length_map] at hkl
      (repeat' ((fail_if_success (with_reducible show wpAny _ _ (call (Value.ref 101) _) _ _ _)); (fail_if_success (with_reducible show wpAny _ _ (call (Value.ref 59) _) _ _ _)); (fail_if_success (with_reducible show wpAny _ _ (call (Value.ref 106) _) _ _ _)); (fail_if_success (with_reducible show wpAny _ _ (call (Value.ref 52) _) _ _ _)); (fail_if_success (with_reducible show wpAny _ _ (pyIter _) _ _ _)); (fail_if_success (with_reducible show wpAny _ _ (eval (Expr.ListComp _ _ _ _) _) _ _ _)); (first | (k_unfold; (try dsimp only)) | (k_end; wrow_close) | walk1 | (dsimp only; walk1) | (leave1; walk_say "STEP leave1"; try dsimp only) | fail "no step")))
      k_dflt (refine' list_items (l := ps.map fun p => (p, lookD left p)) rfl ?k1 ?k2 ?k3 ?k4 ?k5 ?k6 ?k7 ?_; (case k1 => k_asm); (case k2 => k_asm); (case k3 => k_mem); (case k4 => k_mem); (case k5 => assumption); (case k6 => omega); (case k7 => exact hPr.mono fun p hp => .tail _ (.tail _ hp)); k_whole)
      intro B8 vs8 tups8 c8 h8 tk8 hB8 ht8 F8 N8 D8
      (repeat' ((fail_if_success (with_reducible show wpAny _ _ (call (Value.ref 101) _) _ _ _)); (fail_if_success (with_reducible show wpAny _ _ (call (Value.ref 59) _) _ _ _)); (fail_if_success (with_reducible show wpAny _ _ (call (Value.ref 106) _) _ _ _)); (fail_if_success (with_reducible show wpAny _ _ (call (Value.ref 52) _) _ _ _)); (fail_if_success (with_reducible show wpAny _ _ (pyIter _) _ _ _)); (fail_if_success (with_reducible show wpAny _ _ (eval (Expr.ListComp _ _ _ _) _) _ _ _)); (first | (k_unfold; (try dsimp only)) | (k_end; wrow_close) | walk1 | (dsimp only; walk1) | (leave1; walk_say "STEP leave1"; try dsimp only) | fail "no step")))
      with_reducible rename Fr _ _ _ _ => F10
      with_reducible rename News _ _ _ _ => N10
      rename (_ ∧ _ ∧ _ ∧ AllLt _ _) => hlv
      refine tj_list (tl3 := [_, _, _]) rfl F10 N10 (.head _) hB8 ht8 ?h3 D8 ?hdd
      case h3 =>
        intro p hp
        simp only [List.mem_cons, List.not_mem_nil, or_false] at hp
        rcases hp with rfl | rfl | rfl
        · exact Nat.ne_of_gt hlv.2.2.1
        · exact hne7 _ (.tail _ (.head _))
        · exact Nat.ne_of_gt (lT _ (.head _))
      case hdd => rw [hrun, resD, itemsD, List.map_map]; rfl
    case exc =>
      intro x t d es n g h7 tk7 kk tt hrun Fg U R hk1 hk2
      dsimp only
      rename Below _ _ _ _ => K0
      rename PySem.W.Frag.In _ _ => KX
      rename Top _ _ _ _ _ _ => TT
      obtain ⟨nm, q, bs, sn, sub, ab, col, dd, k0, k1, k2, k3, k5, hC⟩ := cls45 KX
      refine caught_D K0 Fg U R KX (topRead_of TT) (by k_is) hC rfl ?_
      intro hE oeE vsE tkE FE NE hcE hdE hvE
      (k_with "getAttr ref" => (k_dflt (first
        | ((with_reducible show wpAny _ _ (getAttr (Value.ref _) (Str.ofString "kind") _) _ _ _); refine' exc_kind (oe := oeE) ?k1 ?k2 ?k3 ?k4 ?k5 ?k6 ?k7 ?k8 ?k9 ?kk ?_; (case k1 => k_asm); (case k2 => k_asm); (case k3 => k_asm); (case k4 => k_mem); (case k5 => assumption); (case k6 => assumption); (case k7 => assumption); (case k8 => k_mem); (case k9 => assumption); (case kk => exact rfl); k_whole)
        | ((with_reducible show wpAny _ _ (getAttr (Value.ref _) (Str.ofString "at") _) _ _ _); refine' exc_at (oe := oeE) ?k1 ?k2 ?k3 ?k4 ?k5 ?k6 ?k7 ?k8 ?k9 ?kk ?_; (case k1 => k_asm); (case k2 => k_asm); (case k3 => k_asm); (case k4 => k_mem); (case k5 => assumption); (case k6 => assumption); (case k7 => assumption); (case k8 => k_mem); (case k9 => assumption); (case kk => exact rfl); k_whole))))
      (repeat' ((fail_if_success (with_reducible show wpAny _ _ (call (Value.ref 101) _) _ _ _)); (fail_if_success (with_reducible show wpAny _ _ (call (Value.ref 59) _) _ _ _)); (fail_if_success (with_reducible show wpAny _ _ (call (Value.ref 106) _) _ _ _)); (fail_if_success (with_reducible show wpAny _ _ (call (Value.ref 52) _) _ _ _)); (fail_if_success (with_reducible show wpAny _ _ (pyIter _) _ _ _)); (fail_if_success (with_reducible show wpAny _ _ (eval (Expr.ListComp _ _ _ _) _) _ _ _)); (first | (k_unfold; (try dsimp only)) | (k_end; wrow_close) | walk1 | (dsimp only; walk1) | (leave1; walk_say "STEP leave1"; try dsimp only) | fail "no step")))
      with_reducible rename Fr _ _ _ _ => F10
      with_reducible rename News _ _ _ _ => N10
      rename (_ ∧ _ ∧ _ ∧ _ ∧ AllLt _ _) => hlv
      refine tj_err (tl := [_, _, _, _]) rfl F10 N10 ?h3 (err_in hrun (.head _))
      case h3 =>
        intro p hp
        simp only [List.mem_cons, List.not_mem_nil, or_false] at hp
        rcases hp with rfl | rfl | rfl | rfl
        · exact Nat.ne_of_gt hlv.2.2.2.1
        · exact news_ne N10 (.tail _ (.head _)) (.tail _ (.tail _ (.tail _ (.tail _ (.head _))))) (by rw [hcE]; simp)
        · exact news_ne N10 (.tail _ (.tail _ (.head _))) (.tail _ (.tail _ (.tail _ (.tail _ (.head _))))) (by simp)
        · exact Nat.ne_of_gt (lT _ (.head _))
  case second =>
    intro v7 tl7 h7 tk7 u7 F7 N7 hO7 hD7
    (repeat' ((fail_if_success (with_reducible show wpAny _ _ (call (Value.ref 101) _) _ _ _)); (fail_if_success (with_reducible show wpAny _ _ (call (Value.ref 59) _) _ _ _)); (fail_if_success (with_reducible show wpAny _ _ (call (Value.ref 106) _) _ _ _)); (fail_if_success (with_reducible show wpAny _ _ (call (Value.ref 52) _) _ _ _)); (fail_if_success (with_reducible show wpAny _ _ (pyIter _) _ _ _)); (fail_if_success (with_reducible show wpAny _ _ (eval (Expr.ListComp _ _ _ _) _) _ _ _)); (fail_if_success (with_reducible show wpAny _ _ (exec (Stmt.Try _ _ _ _ _) _) _ _ _)); (first | (k_unfold; (try dsimp only)) | (k_end; wrow_close) | walk1 | (dsimp only; walk1) | (leave1; walk_say "STEP leave1"; try dsimp only) | fail "no step")))
    have hsub7 : ∀ p ∈ tl2 ++ [(lp, W.listOf vp.toArray 0)], p ∈ tl7 ++ (bT, W.listOf vT2.toArray kT2) :: (tl2 ++ [(lp, W.listOf vp.toArray 0)]) := fun p hp => List.mem_append.mpr (.inr (.tail _ hp))
    k_dflt (refine' due_ct (lp := lp) (lc := bC) (vp := vp) (vc := us) (ps := ps) (ds := ds) ?B ?F ?X ?N ?hp ?hS ?hps ?hok ?hc ?hD ?hC ?hd5 ?T ?hk ?hd ?hu ?ret; (case B => k_asm); (case F => k_asm); (case X => k_asm); (case N => k_asm); (case hp => exact hsub7 _ (List.mem_append.mpr (.inr (.head _)))); (case hS => exact hSP); (case hps => exact hps4); (case hok => exact hpok); (case hc => exact hsub7 _ (List.mem_append.mpr (.inl hmC))); (case hD => exact hDC.mono hsub7); (case hC => exact hCC); (case hd5 => exact hd5); (case T => k_asm); (case hk => exact rfl); (case hd => ktr_room); (case hu => ktr_units))
    case ret =>
    intro v8 tl8 h8 tk8 F8 N8 hO8 hD8
    (try dsimp only)
    refine dat_ne N8 (hD7.mono fun p hp => List.mem_append.mpr (.inr hp)) hD8 (resD_ok hpok hCC) (by ktr_units) ?_
    have N9 := keep_one N8 (p := (bT, W.listOf vT2.toArray kT2)) (List.mem_append.mpr (.inr (List.mem_append.mpr (.inr (.head _)))))
    clear N8 hD8 hO8 hsub7 hD7 hO7 N7 F7
    (try dsimp only at F8 N9)
    rename Below _ _ _ _ => K0
    rename PySem.W.Frag.In _ _ => KX0
    rename Top _ _ _ _ _ _ => TT0
    (repeat' ((fail_if_success (with_reducible show wpAny _ _ (subscriptTail _ (PySem.Expr.Slice _ _ _ _) _ _) _ _ _)); (fail_if_success (with_reducible show wpAny _ _ (call (Value.ref 101) _) _ _ _)); (fail_if_success (with_reducible show wpAny _ _ (call (Value.ref 59) _) _ _ _)); (fail_if_success (with_reducible show wpAny _ _ (call (Value.ref 106) _) _ _ _)); (fail_if_success (with_reducible show wpAny _ _ (call (Value.ref 52) _) _ _ _)); (fail_if_success (with_reducible show wpAny _ _ (pyIter _) _ _ _)); (fail_if_success (with_reducible show wpAny _ _ (eval (Expr.ListComp _ _ _ _) _) _ _ _)); (first | (k_unfold; (try dsimp only)) | (k_end; wrow_close) | walk1 | (dsimp only; walk1) | (leave1; walk_say "STEP leave1"; try dsimp only) | fail "no step")))
    with_reducible rename News _ _ _ _ => N10
    with_reducible rename Fr _ _ _ _ => F10
    rename (bT < _) => hl10
    rename (0 ≤ _) => h0I
    rename (_ < 4) => h1I
    rename Int => rI
    k_dflt (refine' slice_tup_upto (s := ⟨_, _, _, _, _⟩) (us := [_, _, _, _]) F10 N10 ?l1 ?hy ?hc ?hsz ?_ ?hs; (case l1 => (intro p hp; rw [List.mem_singleton.mp hp]; exact hl10)); (case hy => exact (Int.toNat_of_nonneg (by omega)).symm); (case hc => (show Int.toNat _ ≤ 4; omega)); (case hsz => (show 4 ≤ 1000; omega)); (case hs => with_unfolding_all rfl); k_whole)
    intro bI hI FI NI lI
    have hbI : @LT.lt Nat instLTNat bT bI := lI _ (.head _)
    obtain ⟨vi, NI2, hSi⟩ := inputs_pick NI
    clear NI
    have hi1 : 1 ≤ (List.take (1 + rI).toNat I4).length := by rw [List.length_take]; show 1 ≤ min _ 4; omega
    have hi4 : (List.take (1 + rI).toNat I4).length ≤ 4 := by rw [List.length_take]; show min _ 4 ≤ 4; omega
    generalize List.take (1 + rI).toNat I4 = is at hSi hi1 hi4
    clear N10 F10
    (repeat' ((fail_if_success (with_reducible show wpAny _ _ (subscriptTail _ (PySem.Expr.Slice _ _ _ _) _ _) _ _ _)); (fail_if_success (with_reducible show wpAny _ _ (call (Value.ref 101) _) _ _ _)); (fail_if_success (with_reducible show wpAny _ _ (call (Value.ref 59) _) _ _ _)); (fail_if_success (with_reducible show wpAny _ _ (call (Value.ref 106) _) _ _ _)); (fail_if_success (with_reducible show wpAny _ _ (call (Value.ref 52) _) _ _ _)); (fail_if_success (with_reducible show wpAny _ _ (pyIter _) _ _ _)); (fail_if_success (with_reducible show wpAny _ _ (eval (Expr.ListComp _ _ _ _) _) _ _ _)); (first | (k_unfold; (try dsimp only)) | (k_end; wrow_close) | walk1 | (dsimp only; walk1) | (leave1; walk_say "STEP leave1"; try dsimp only) | fail "no step")))
    with_reducible rename News _ _ _ _ => N11
    obtain ⟨esP, nP, N12, hinP⟩ := prim_pick (v := .ref bI) N11 rfl
    clear N11
    k_dflt (refine' tup_lenS ?k1 ?k2 ?k3 ?k4 ?_; (case k1 => exact N12); (case k2 => k_mem); (case k3 => exact hSi); (case k4 => omega); k_whole)
    rename (_ < _ ∧ _ < _ ∧ _ < _) => l3
    rename (_ < _) => l2
    have hTx := Nat.lt_trans l3.2.2 l2
    (repeat' ((fail_if_success (with_reducible show wpAny _ _ (call (Value.ref 94) _) _ _ _)); (fail_if_success (with_reducible show wpAny _ _ (subscriptTail _ (PySem.Expr.Slice _ _ _ _) _ _) _ _ _)); (fail_if_success (with_reducible show wpAny _ _ (call (Value.ref 101) _) _ _ _)); (fail_if_success (with_reducible show wpAny _ _ (call (Value.ref 59) _) _ _ _)); (fail_if_success (with_reducible show wpAny _ _ (call (Value.ref 106) _) _ _ _)); (fail_if_success (with_reducible show wpAny _ _ (call (Value.ref 52) _) _ _ _)); (fail_if_success (with_reducible show wpAny _ _ (pyIter _) _ _ _)); (fail_if_success (with_reducible show wpAny _ _ (eval (Expr.ListComp _ _ _ _) _) _ _ _)); (first | (k_unfold; (try dsimp only)) | (k_end; wrow_close) | walk1 | (dsimp only; walk1) | (leave1; walk_say "STEP leave1"; try dsimp only) | fail "no step")))
    (refine' bolt_at ?B ?F ?X ?N ?U ?I ?T ?hk ?hd ?hu ?h0 ?h1 ?hl ?_; (case B => k_asm); (case F => k_asm); (case X => k_asm); (case N => exact N12); (case U => exact .tail (by k_ne) (.tail (by k_ne) (.tail (by k_ne) (.tail (by k_ne) (.tail (by k_ne) (.head (fun _ h => nomatch h))))))); (case I => k_asm); (case T => k_asm); (case hk => first | exact rfl | assumption); (case hd => ktr_room); (case hu => ktr_units); (case h0 => omega); (case h1 => omega); (case hl => omega); k_whole; intro r t' vs' ns' n' h' tk' F' N' I' hl' h0' h1'; (try dsimp only at N'))
    (repeat' ((fail_if_success (with_reducible show wpAny _ _ (subscriptTail _ (PySem.Expr.Slice _ _ _ _) _ _) _ _ _)); (fail_if_success (with_reducible show wpAny _ _ (call (Value.ref 101) _) _ _ _)); (fail_if_success (with_reducible show wpAny _ _ (call (Value.ref 59) _) _ _ _)); (fail_if_success (with_reducible show wpAny _ _ (call (Value.ref 106) _) _ _ _)); (fail_if_success (with_reducible show wpAny _ _ (call (Value.ref 52) _) _ _ _)); (fail_if_success (with_reducible show wpAny _ _ (pyIter _) _ _ _)); (fail_if_success (with_reducible show wpAny _ _ (eval (Expr.ListComp _ _ _ _) _) _ _ _)); (first | (k_unfold; (try dsimp only)) | (k_end; wrow_close) | walk1 | (dsimp only; walk1) | (leave1; walk_say "STEP leave1"; try dsimp only) | fail "no step")))
    (k_with "state" => (refine ⟨by omega, by simp only [List.length_append, List.length_cons, List.length_nil]; omega, List.forall_mem_append.mpr ⟨by assumption, List.forall_mem_cons.mpr ⟨?_, List.forall_mem_nil _⟩⟩⟩; first | exact connD_nn | exact connD_ne (by omega) (by omega) | exact connX_n | exact connX_e (by omega) (by omega)))
    k_dat (fun pre tin terminals => tin.length ≤ 60 ∧ terminals.length = pre.length ∧ ∀ d ∈ terminals, ConnD ["x"] 1 "t" d) "tin" "terminals*"
    · (repeat' ((fail_if_success (with_reducible show wpAny _ _ (subscriptTail _ (PySem.Expr.Slice _ _ _ _) _ _) _ _ _)); (fail_if_success (with_reducible show wpAny _ _ (call (Value.ref 101) _) _ _ _)); (fail_if_success (with_reducible show wpAny _ _ (call (Value.ref 59) _) _ _ _)); (fail_if_success (with_reducible show wpAny _ _ (call (Value.ref 106) _) _ _ _)); (fail_if_success (with_reducible show wpAny _ _ (call (Value.ref 52) _) _ _ _)); (fail_if_success (with_reducible show wpAny _ _ (pyIter _) _ _ _)); (fail_if_success (with_reducible show wpAny _ _ (eval (Expr.ListComp _ _ _ _) _) _ _ _)); (first | (k_unfold; (try dsimp only)) | (k_end; wrow_close) | walk1 | (dsimp only; walk1) | (leave1; walk_say "STEP leave1"; try dsimp only) | fail "no step")))
    · with_reducible rename News _ _ _ _ => N13
      with_reducible rename Fr _ _ _ _ => F13
      with_reducible rename DatAll _ _ _ => hDt
      with_reducible rename (∀ d ∈ _, ConnD ["x"] _ _ d) => hCt
      with_reducible rename (List.length _ = (rangeKs _ _).length) => hLt
      with_reducible rename (List.length _ = List.length _) => hLv
      with_reducible rename OwnOff _ _ => hOt
      clear qk ek
      (try dsimp only)
      with_reducible rename List Dat => dsT
      with_reducible rename List Value => usT
      have hlt6 : dsT.length ≤ 6 := by rw [hLt, rangeKs_length]; omega
      obtain ⟨us2, hU2, hpair⟩ := second_all hDt hCt
      have hul : us2.length = usT.length := by rw [hU2.length, List.length_map, hDt.length]
      (repeat' ((fail_if_success (with_reducible show wpAny _ _ (call (Value.ref 101) _) _ _ _)); (fail_if_success (with_reducible show wpAny _ _ (call (Value.ref 59) _) _ _ _)); (fail_if_success (with_reducible show wpAny _ _ (call (Value.ref 106) _) _ _ _)); (fail_if_success (with_reducible show wpAny _ _ (call (Value.ref 52) _) _ _ _)); (fail_if_success (with_reducible show wpAny _ _ (pyIter _) _ _ _)); (fail_if_success (with_reducible show wpAny _ _ (eval (Expr.ListComp _ _ _ _) _) _ _ _)); (first | (k_unfold; (try dsimp only)) | (k_end; wrow_close) | walk1 | (dsimp only; walk1) | (leave1; walk_say "STEP leave1"; try dsimp only) | fail "no step")))
      k_dflt (refine comp_pairs (hF₀ := by k_asm) (by with_unfolding_all rfl) (by decide) (by rfl) (by decide) (by rfl) (by rfl) (by decide) ?_)
      (repeat' ((fail_if_success (with_reducible show wpAny _ _ (call (Value.ref 101) _) _ _ _)); (fail_if_success (with_reducible show wpAny _ _ (call (Value.ref 59) _) _ _ _)); (fail_if_success (with_reducible show wpAny _ _ (call (Value.ref 106) _) _ _ _)); (fail_if_success (with_reducible show wpAny _ _ (call (Value.ref 52) _) _ _ _)); (fail_if_success (with_reducible show wpAny _ _ (pyIter _) _ _ _)); (fail_if_success (with_reducible show wpAny _ _ (eval (Expr.ListComp _ _ _ _) _) _ _ _)); (first | (k_unfold; (try dsimp only)) | (k_end; wrow_close) | walk1 | (dsimp only; walk1) | (leave1; walk_say "STEP leave1"; try dsimp only) | fail "no step")))
      refine ⟨_, _, usT, _, _, fun _ => true, fun i => us2.getD i .none, rfl, rfl, F13, N13, .head _, .inl rfl, rfl, (by rw [sizeLine_eq]; omega), ?turns, ?fin⟩
      case turns =>
        intro g i v hv
        obtain ⟨a, vn, ve, nn, rfl, hm, hue⟩ := hpair i v hv
        refine ⟨a, _, vn, ve, nn, rfl, .tail _ (.tail _ hm), rfl, rfl, ?_⟩
        intro C oC m₂ h tk E' hNs hx1 hx2 F4 N4
        have hpk : us2.getD i .none = ve := by rw [List.getD_eq_getElem?_getD, hue]; rfl
        refine wpAny_pure ⟨rfl, ⟨_, rfl⟩, fun _ => ?_⟩
        (repeat' ((fail_if_success (with_reducible show wpAny _ _ (call (Value.ref 101) _) _ _ _)); (fail_if_success (with_reducible show wpAny _ _ (call (Value.ref 59) _) _ _ _)); (fail_if_success (with_reducible show wpAny _ _ (call (Value.ref 106) _) _ _ _)); (fail_if_success (with_reducible show wpAny _ _ (call (Value.ref 52) _) _ _ _)); (fail_if_success (with_reducible show wpAny _ _ (pyIter _) _ _ _)); (fail_if_success (with_reducible show wpAny _ _ (eval (Expr.ListComp _ _ _ _) _) _ _ _)); (first | (k_unfold; (try dsimp only)) | (k_end; wrow_close) | walk1 | (dsimp only; walk1) | (leave1; walk_say "STEP leave1"; try dsimp only) | fail "no step")))
        exact hpk.symm
      case fin =>
        intro D h3 tk3 F4 N4 hO
        rw [sel_all us2 _ (Nat.le_of_eq hul.symm), List.take_of_length_le (Nat.le_of_eq hul)] at N4
        have hl4 : Heap.IsList h3 D us2.toArray := ⟨_, (N4 (D, LCg.lst us2) (.head _)).1, rfl, _, rfl⟩
        walk1
        k_dflt (refine' kde_tupleOf (items := us2.toArray) (zs := us2) ?k1 ?k2 ?k3 ?k4 ?k5 ?_; (case k1 => exact F4); (case k2 => exact N4); (case k3 => exact hl4); (case k4 => (have := hDt.length; rw [List.size_toArray]; omega)); (case k5 => simp); k_whole)
        intro D2 h4 F5 N5 l5
        (repeat' ((fail_if_success (with_reducible show wpAny _ _ (exec (Stmt.If _ _ _ _) _) _ _ _)); (fail_if_success (with_reducible show wpAny _ _ (call (Value.ref 101) _) _ _ _)); (fail_if_success (with_reducible show wpAny _ _ (call (Value.ref 59) _) _ _ _)); (fail_if_success (with_reducible show wpAny _ _ (call (Value.ref 106) _) _ _ _)); (fail_if_success (with_reducible show wpAny _ _ (call (Value.ref 52) _) _ _ _)); (fail_if_success (with_reducible show wpAny _ _ (pyIter _) _ _ _)); (fail_if_success (with_reducible show wpAny _ _ (eval (Expr.ListComp _ _ _ _) _) _ _ _)); (first | (k_unfold; (try dsimp only)) | (k_end; wrow_close) | walk1 | (dsimp only; walk1) | (leave1; walk_say "STEP leave1"; try dsimp only) | fail "no step")))
        with_reducible rename News _ _ _ _ => N14
        with_reducible rename Fr _ _ _ _ => F14
        clear F5 N5 F4 N4 hl4 F13 N13
        (k_with "call builtin:len" => ((with_reducible show wpAny _ _ (call (Value.builtin "len") [Value.ref _]) _ _ _); k_dflt (first
          | (refine' tup_lenS ?k1 ?k2 ?k3 ?k4 ?_; (case k1 => k_asm); (case k2 => k_mem); (case k3 => assumption); (case k4 => omega); k_whole)
          | (refine' lst_lenD ?k1 ?k2 ?k3 ?k4 ?_; (case k1 => k_asm); (case k2 => k_mem); (case k3 => assumption); (case k4 => omega); k_whole))))
        refine join_due (dueD is.length dsT) F14 N14 ?w1 ?w2
        case w1 =>
          (repeat' ((fail_if_success (with_reducible show wpAny _ _ (call (Value.ref 101) _) _ _ _)); (fail_if_success (with_reducible show wpAny _ _ (call (Value.ref 59) _) _ _ _)); (fail_if_success (with_reducible show wpAny _ _ (call (Value.ref 106) _) _ _ _)); (fail_if_success (with_reducible show wpAny _ _ (call (Value.ref 52) _) _ _ _)); (fail_if_success (with_reducible show wpAny _ _ (pyIter _) _ _ _)); (fail_if_success (with_reducible show wpAny _ _ (eval (Expr.ListComp _ _ _ _) _) _ _ _)); (first | (k_unfold; (try dsimp only)) | (k_end; wrow_close) | walk1 | (dsimp only; walk1) | (leave1; walk_say "STEP leave1"; try dsimp only) | fail "no step")))
          · with_reducible rename ((dsT.length : Int) ≠ _) => hcI
            have hres := runP_count (k := is.length) (ds := dsT) (by omega)
            with_reducible rename News _ _ _ _ => N15
            refine dj_set [_] rfl (by assumption) (fun y => rfl) N15 (fun p hp => hp) ?_
            rw [dueD_err hres]
            exact .tuple (.head _) (.cons (.str _ _) (.cons (.int _ _) .nil))
          · with_reducible rename ((dsT.length : Int) = _) => hcI
            have hcnt : dsT.length = is.length + 1 := by omega
            obtain ⟨ns, hns, hsel⟩ := first_all hDt hCt
            obtain ⟨es, hes1, hes2, hes3⟩ := hsel usT.length
            k_dflt (refine comp_pairs (hF₀ := by k_asm) (by with_unfolding_all rfl) (by decide) (by rfl) (by decide) (by rfl) (by rfl) (by decide) ?_)
            (repeat' ((fail_if_success (with_reducible show wpAny _ _ (call (Value.ref 101) _) _ _ _)); (fail_if_success (with_reducible show wpAny _ _ (call (Value.ref 59) _) _ _ _)); (fail_if_success (with_reducible show wpAny _ _ (call (Value.ref 106) _) _ _ _)); (fail_if_success (with_reducible show wpAny _ _ (call (Value.ref 52) _) _ _ _)); (fail_if_success (with_reducible show wpAny _ _ (pyIter _) _ _ _)); (fail_if_success (with_reducible show wpAny _ _ (eval (Expr.ListComp _ _ _ _) _) _ _ _)); (first | (k_unfold; (try dsimp only)) | (k_end; wrow_close) | walk1 | (dsimp only; walk1) | (leave1; walk_say "STEP leave1"; try dsimp only) | fail "no step")))
            refine ⟨_, _, usT, _, _, fun i => keepN (ns.getD i .none), fun i => ns.getD i .none, rfl, rfl, F14, N14, .tail _ (.tail _ (.head _)), .inl rfl, rfl, (by rw [sizeLine_eq]; omega), ?turns, ?fin⟩
            case turns =>
              intro g i v hv
              obtain ⟨a, vn, ve, nn, rfl, hm, hue, hvn⟩ := hns i v hv
              refine ⟨a, _, vn, ve, nn, rfl, .tail _ (.tail _ (.tail _ (.tail _ hm))), rfl, rfl, ?_⟩
              intro C oC m₂ h tk E' hNs hx1 hx2 F4 N4
              have hpk : ns.getD i .none = vn := by rw [List.getD_eq_getElem?_getD, hue]; rfl
              dsimp only
              rw [hpk]
              refine tests_one ?_
              rcases hvn with rfl | ⟨tx, rfl⟩
              · (repeat' ((fail_if_success (with_reducible show wpAny _ _ (call (Value.ref 101) _) _ _ _)); (fail_if_success (with_reducible show wpAny _ _ (call (Value.ref 59) _) _ _ _)); (fail_if_success (with_reducible show wpAny _ _ (call (Value.ref 106) _) _ _ _)); (fail_if_success (with_reducible show wpAny _ _ (call (Value.ref 52) _) _ _ _)); (fail_if_success (with_reducible show wpAny _ _ (pyIter _) _ _ _)); (fail_if_success (with_reducible show wpAny _ _ (eval (Expr.ListComp _ _ _ _) _) _ _ _)); (first | (k_unfold; (try dsimp only)) | (k_end; wrow_close) | walk1 | (dsimp only; walk1) | (leave1; walk_say "STEP leave1"; try dsimp only) | fail "no step")))
              · (repeat' ((fail_if_success (with_reducible show wpAny _ _ (call (Value.ref 101) _) _ _ _)); (fail_if_success (with_reducible show wpAny _ _ (call (Value.ref 59) _) _ _ _)); (fail_if_success (with_reducible show wpAny _ _ (call (Value.ref 106) _) _ _ _)); (fail_if_success (with_reducible show wpAny _ _ (call (Value.ref 52) _) _ _ _)); (fail_if_success (with_reducible show wpAny _ _ (pyIter _) _ _ _)); (fail_if_success (with_reducible show wpAny _ _ (eval (Expr.ListComp _ _ _ _) _) _ _ _)); (first | (k_unfold; (try dsimp only)) | (k_end; wrow_close) | walk1 | (dsimp only; walk1) | (leave1; walk_say "STEP leave1"; try dsimp only) | fail "no step")))
            case fin =>
              intro D3 h5 tk5 F6 N6 hO6
              walk1
              (repeat' ((fail_if_success (with_reducible show wpAny _ _ (call (Value.ref 101) _) _ _ _)); (fail_if_success (with_reducible show wpAny _ _ (call (Value.ref 59) _) _ _ _)); (fail_if_success (with_reducible show wpAny _ _ (call (Value.ref 106) _) _ _ _)); (fail_if_success (with_reducible show wpAny _ _ (call (Value.ref 52) _) _ _ _)); (fail_if_success (with_reducible show wpAny _ _ (pyIter _) _ _ _)); (fail_if_success (with_reducible show wpAny _ _ (eval (Expr.ListComp _ _ _ _) _) _ _ _)); (first | (k_unfold; (try dsimp only)) | (k_end; wrow_close) | walk1 | (dsimp only; walk1) | (leave1; walk_say "STEP leave1"; try dsimp only) | fail "no step")))
              · with_reducible rename (decide (es = []) = true) => hesT
                have hall := hes3.mp (of_decide_eq_true hesT)
                rw [show dsT.take usT.length = dsT by rw [hLv, List.take_length]] at hall
                with_reducible rename News _ _ _ _ => N16
                by_cases hn : ∃ d ∈ dsT, isNoneD (cnE d) = true
                · obtain ⟨d, hd1, hd2⟩ := id hn
                  have hres := runP_bad hcnt hd1 (by rw [badD, hd2, Bool.or_true])
                  refine none_in (c := true) N16 (.tail _ (.tail _ (.head _))) hU2 (fun p hp => .tail _ (.tail _ (.tail _ (.tail _ (.tail _ (.tail _ hp)))))) (cnE_all hCt 7) (by ktr_units) ⟨fun _ => rfl, fun _ => none_mem.mpr hn⟩ ?_
                  (repeat' ((fail_if_success (with_reducible show wpAny _ _ (call (Value.ref 101) _) _ _ _)); (fail_if_success (with_reducible show wpAny _ _ (call (Value.ref 59) _) _ _ _)); (fail_if_success (with_reducible show wpAny _ _ (call (Value.ref 106) _) _ _ _)); (fail_if_success (with_reducible show wpAny _ _ (call (Value.ref 52) _) _ _ _)); (fail_if_success (with_reducible show wpAny _ _ (pyIter _) _ _ _)); (fail_if_success (with_reducible show wpAny _ _ (eval (Expr.ListComp _ _ _ _) _) _ _ _)); (first | (k_unfold; (try dsimp only)) | (k_end; wrow_close) | walk1 | (dsimp only; walk1) | (leave1; walk_say "STEP leave1"; try dsimp only) | fail "no step")))
                  with_reducible rename News _ _ _ _ => N17
                  refine dj_set [_, _, _] rfl (by assumption) (fun y => rfl) N17 (fun p hp => hp) ?_
                  rw [dueD_err hres]
                  exact .tuple (.head _) (.cons (.str _ _) (.cons (.int _ _) .nil))
                · have hres := runP_ok hcnt fun d hd => by
                    rw [badD, hall d hd]
                    exact Bool.eq_false_iff.mpr fun q => hn ⟨d, hd, q⟩
                  refine none_in (c := false) N16 (.tail _ (.tail _ (.head _))) hU2 (fun p hp => .tail _ (.tail _ (.tail _ (.tail _ (.tail _ (.tail _ hp)))))) (cnE_all hCt 7) (by ktr_units) ⟨fun q => absurd (none_mem.mp q) hn, fun q => nomatch q⟩ ?_
                  (repeat' ((fail_if_success (with_reducible show wpAny _ _ (call (Value.ref 101) _) _ _ _)); (fail_if_success (with_reducible show wpAny _ _ (call (Value.ref 59) _) _ _ _)); (fail_if_success (with_reducible show wpAny _ _ (call (Value.ref 106) _) _ _ _)); (fail_if_success (with_reducible show wpAny _ _ (call (Value.ref 52) _) _ _ _)); (fail_if_success (with_reducible show wpAny _ _ (pyIter _) _ _ _)); (fail_if_success (with_reducible show wpAny _ _ (eval (Expr.ListComp _ _ _ _) _) _ _ _)); (first | (k_unfold; (try dsimp only)) | (k_end; wrow_close) | walk1 | (dsimp only; walk1) | (leave1; walk_say "STEP leave1"; try dsimp only) | fail "no step")))
                  with_reducible rename News _ _ _ _ => N17
                  refine dj_keep (v := .ref D2) [_, _] rfl (by assumption) rfl N17 (fun p hp => hp) ?_
                  rw [dueD_ok hres]
                  exact .tuple (.tail _ (.tail _ (.head _))) (hU2.mono fun p hp => .tail _ (.tail _ (.tail _ (.tail _ (.tail _ (.tail _ hp))))))
              · with_reducible rename (decide (es = []) = false) => hesF
                obtain ⟨d, hd1, hd2⟩ := names_bad (ds := dsT) fun q => of_decide_eq_false hesF (hes3.mpr fun d hd => q d (List.mem_of_mem_take hd))
                have hres := runP_bad hcnt hd1 hd2
                with_reducible rename News _ _ _ _ => N17
                refine dj_set [_, _, _] rfl (by assumption) (fun y => rfl) N17 (fun p hp => hp) ?_
                rw [dueD_err hres]
                exact .tuple (.head _) (.cons (.str _ _) (.cons (.int _ _) .nil))
        case w2 =>
          intro v9 tl9 h9 tk9 F9 N9 D9
          (repeat' ((fail_if_success (with_reducible show wpAny _ _ (call (Value.ref 101) _) _ _ _)); (fail_if_success (with_reducible show wpAny _ _ (call (Value.ref 59) _) _ _ _)); (fail_if_success (with_reducible show wpAny _ _ (call (Value.ref 106) _) _ _ _)); (fail_if_success (with_reducible show wpAny _ _ (call (Value.ref 52) _) _ _ _)); (fail_if_success (with_reducible show wpAny _ _ (pyIter _) _ _ _)); (fail_if_success (with_reducible show wpAny _ _ (eval (Expr.ListComp _ _ _ _) _) _ _ _)); (first | (k_unfold; (try dsimp only)) | (k_end; wrow_close) | walk1 | (dsimp only; walk1) | (leave1; walk_say "STEP leave1"; try dsimp only) | fail "no step")))
          with_reducible rename News _ _ _ _ => N18
          with_reducible rename Fr _ _ _ _ => F18
          (try dsimp only)
          k_dflt (refine' term_ct (li := bI) (es := esP) (vi := vi) (vc := usT) (is := is) (ds := dsT) ?B ?F ?X ?N ?hx ?hdx ?hin ?hi ?hS ?hi4 ?hc ?hD ?hC ?hd6 ?T ?hk ?hd ?hu ?ret ?exc; (case B => exact K0); (case F => exact F18); (case X => exact KX0); (case N => exact N18); (case hx => exact in_tl (.tail _ (.tail _ (.tail _ (.tail _ (.head _)))))); (case hdx => exact in_tl (.tail _ (.tail _ (.tail _ (.tail _ (.tail _ (.head _))))))); (case hin => exact hinP); (case hi => exact in_tl (.tail _ (.tail _ (.tail _ (.tail _ (.tail _ (.tail _ (.tail _ (.head _))))))))); (case hS => exact hSi); (case hi4 => exact hi4); (case hc => exact .head _); (case hD => exact hDt.mono fun p hp => in_tl (.tail _ (.tail _ (.tail _ (.tail _ hp))))); (case hC => exact hCt); (case hd6 => exact hlt6); (case T => exact TT0); (case hk => exact rfl); (case hd => ktr_room); (case hu => ktr_units))
          case ret =>
            intro b us9 nn9 h7 tk7 hres F7 N7 hU7
            dsimp only
            have hgood := dueD_good (m := is.length) hCt
            rw [dueD_ok hres] at D9 hgood
            (repeat' ((fail_if_success (with_reducible show wpAny _ _ (call (Value.ref 101) _) _ _ _)); (fail_if_success (with_reducible show wpAny _ _ (call (Value.ref 59) _) _ _ _)); (fail_if_success (with_reducible show wpAny _ _ (call (Value.ref 106) _) _ _ _)); (fail_if_success (with_reducible show wpAny _ _ (call (Value.ref 52) _) _ _ _)); (fail_if_success (with_reducible show wpAny _ _ (pyIter _) _ _ _)); (fail_if_success (with_reducible show wpAny _ _ (eval (Expr.ListComp _ _ _ _) _) _ _ _)); (first | (k_unfold; (try dsimp only)) | (k_end; wrow_close) | walk1 | (dsimp only; walk1) | (leave1; walk_say "STEP leave1"; try dsimp only) | fail "no step")))
            refine dat_eq N7 (.tuple (.head _) (hU7.mono fun p hp => .tail _ hp)) (D9.mono fun p hp => .tail _ (.tail _ hp)) hgood (by ktr_units) ?_
            (repeat' ((fail_if_success (with_reducible show GoodW _ _ _ _ _ _ _)); (fail_if_success (with_reducible show wpAny _ _ (call (Value.ref 101) _) _ _ _)); (fail_if_success (with_reducible show wpAny _ _ (call (Value.ref 59) _) _ _ _)); (fail_if_success (with_reducible show wpAny _ _ (call (Value.ref 106) _) _ _ _)); (fail_if_success (with_reducible show wpAny _ _ (call (Value.ref 52) _) _ _ _)); (fail_if_success (with_reducible show wpAny _ _ (pyIter _) _ _ _)); (fail_if_success (with_reducible show wpAny _ _ (eval (Expr.ListComp _ _ _ _) _) _ _ _)); (first | (k_unfold; (try dsimp only)) | walk1 | (dsimp only; walk1) | (leave1; walk_say "STEP leave1"; try dsimp only) | fail "no step")))
            refine good_true (by assumption) rfl (by assumption)
          case exc =>
            intro x t d es n g h7 tk7 kk tt hres Fg U R hk1 hk2
            dsimp only
            obtain ⟨nm, q, bs, sn, sub, ab, col, dd, k0, k1, k2, k3, k5, hC⟩ := cls45 KX0
            refine caught_D K0 Fg U R KX0 (topRead_of TT0) (by k_is) hC rfl ?_
            intro hE oeE vsE tkE FE NE hcE hdE hvE
            (k_with "getAttr ref" => (k_dflt (first
              | ((with_reducible show wpAny _ _ (getAttr (Value.ref _) (Str.ofString "kind") _) _ _ _); refine' exc_kind (oe := oeE) ?k1 ?k2 ?k3 ?k4 ?k5 ?k6 ?k7 ?k8 ?k9 ?kk ?_; (case k1 => k_asm); (case k2 => k_asm); (case k3 => k_asm); (case k4 => k_mem); (case k5 => assumption); (case k6 => assumption); (case k7 => assumption); (case k8 => k_mem); (case k9 => assumption); (case kk => exact rfl); k_whole)
              | ((with_reducible show wpAny _ _ (getAttr (Value.ref _) (Str.ofString "at") _) _ _ _); refine' exc_at (oe := oeE) ?k1 ?k2 ?k3 ?k4 ?k5 ?k6 ?k7 ?k8 ?k9 ?kk ?_; (case k1 => k_asm); (case k2 => k_asm); (case k3 => k_asm); (case k4 => k_mem); (case k5 => assumption); (case k6 => assumption); (case k7 => assumption); (case k8 => k_mem); (case k9 => assumption); (case kk => exact rfl); k_whole))))
            have hgood := dueD_good (m := is.length) hCt
            rw [dueD_err hres] at D9 hgood
            (repeat' ((fail_if_success (with_reducible show wpAny _ _ (call (Value.ref 101) _) _ _ _)); (fail_if_success (with_reducible show wpAny _ _ (call (Value.ref 59) _) _ _ _)); (fail_if_success (with_reducible show wpAny _ _ (call (Value.ref 106) _) _ _ _)); (fail_if_success (with_reducible show wpAny _ _ (call (Value.ref 52) _) _ _ _)); (fail_if_success (with_reducible show wpAny _ _ (pyIter _) _ _ _)); (fail_if_success (with_reducible show wpAny _ _ (eval (Expr.ListComp _ _ _ _) _) _ _ _)); (first | (k_unfold; (try dsimp only)) | (k_end; wrow_close) | walk1 | (dsimp only; walk1) | (leave1; walk_say "STEP leave1"; try dsimp only) | fail "no step")))
            with_reducible rename News _ _ _ _ => N20
            refine dat_eq N20 (.tuple (.head _) (.cons (.str _ _) (.cons (.int _ _) .nil))) (D9.mono fun p hp => .tail _ (.tail _ (.tail _ (.tail _ hp)))) hgood (by ktr_units) ?_
            (repeat' ((fail_if_success (with_reducible show GoodW _ _ _ _ _ _ _)); (fail_if_success (with_reducible show wpAny _ _ (call (Value.ref 101) _) _ _ _)); (fail_if_success (with_reducible show wpAny _ _ (call (Value.ref 59) _) _ _ _)); (fail_if_success (with_reducible show wpAny _ _ (call (Value.ref 106) _) _ _ _)); (fail_if_success (with_reducible show wpAny _ _ (call (Value.ref 52) _) _ _ _)); (fail_if_success (with_reducible show wpAny _ _ (pyIter _) _ _ _)); (fail_if_success (with_reducible show wpAny _ _ (eval (Expr.ListComp _ _ _ _) _) _ _ _)); (first | (k_unfold; (try dsimp only)) | walk1 | (dsimp only; walk1) | (leave1; walk_say "STEP leave1"; try dsimp only) | fail "no step")))
            refine good_true (by assumption) rfl (by assumption))
end Mine
theorem PySem.Challenge.cw_pq0443_01_holds : PySem.Challenge.rw_pq0443_01.Holds := by
  exact Mine.whole
