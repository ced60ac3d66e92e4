import PyProof.Rows.All
import Wide.All
import OpenK.AllK
import Wide.FinOn
import PySem.Challenge.RW_xm0813_01
open PySem PySem.W PyProof.Rows PySem.Calls
set_option Elab.async false
set_option compiler.extract_closed false
set_option maxRecDepth 100000
set_option maxHeartbeats 8000000
set_option pp.deepTerms false
set_option pp.deepTerms.threshold 6
namespace Mine
open_top hd for PySem.Challenge.rw_xm0813_01
theorem arms_off : True := by
  w_top off
  trivial
section
theorem fm_lo {a n : Int} (h : 0 < n) : 0 ≤ a.fmod n := Int.fmod_nonneg_of_pos a h
theorem fm_hi {a n : Int} (h : 0 < n) : a.fmod n < n := Int.fmod_lt_of_pos a h
theorem fd_lo {a n : Int} (ha : 0 ≤ a) (h : 0 < n) : 0 ≤ a.fdiv n := Int.fdiv_nonneg ha (Int.le_of_lt h)
theorem upd_led {h₀ h : Heap} {L d : Addr} {o o' : Obj} {news news' : List (Addr × Obj)} (N : News h₀ L h ((d, o') :: news.filter fun p => decide (p.1 ≠ d))) (U : Upd d o o' news news') : News h₀ L h news' := by
  obtain ⟨pre, post, rfl, rfl, h1, h2⟩ := U.split
  intro p hp
  rcases List.mem_append.mp hp with q | q
  · exact N p (List.mem_cons_of_mem _ (List.mem_filter.mpr ⟨List.mem_append_left _ q, by simpa using h1 p q⟩))
  · rcases List.mem_cons.mp q with rfl | q
    · exact N _ (List.mem_cons_self ..)
    · exact N p (List.mem_cons_of_mem _ (List.mem_filter.mpr ⟨List.mem_append_right _ (List.mem_cons_of_mem _ q), by simpa using h2 p q⟩))
theorem led_filter {h₀ h : Heap} {L d : Addr} {o : Obj} {news : List (Addr × Obj)} (N : News h₀ L h news) (hm : (d, o) ∈ news) : News h₀ L h ((d, o) :: news.filter fun p => decide (p.1 ≠ d)) := by
  intro p hp
  rcases List.mem_cons.mp hp with rfl | hp
  · exact N _ hm
  · exact N p (List.mem_filter.mp hp).1
theorem off_filter {d : Addr} {news : List (Addr × Obj)} : OwnOff (news.filter fun p => decide (p.1 ≠ d)) [d] := by
  intro p hp b hb
  rw [List.mem_singleton.mp hb]
  simpa using (List.mem_filter.mp hp).2
theorem furrow0 {w : World} {mean : ExcName → Option Value} {mg mb : Str → Option Value} (dp un : Nat) (gd : Option (List Code)) (cn : Str) (cs : Scope) (a : Addr) (ccd : Value) (cl : List (Str × Addr)) (outer : List Env) (A₀ : Around) (base h₀ : Heap) (L : Addr) (m : Str → Option Value) (s : Shared) (Q E : Value → Shared → Prop)
    (fa : Addr) (f0 f1 : Int) (t0 t1 : Tok) (fn : Nat) (own : List (Addr × Obj)) (mm : Int) (tm : Tok)
    (B : Below A₀ base outer h₀) (F : Fr h₀ L s.heap m) (X : (hd.heap_39 w.params).In h₀) (N : News h₀ L s.heap ((fa, listOf [Value.int f0 t0, .int f1 t1].toArray fn) :: own)) (ho : OwnOff own [fa])
    (T : Top hd.view_39 (looseW hd.view_39 []) mean mg mb h₀) (hk : cs.kind = .function) (hm0 : 0 < mm) (hm1 : mm ≤ 401) (hf0 : 0 ≤ f0) (hf1 : 0 ≤ f1) (hf2 : f1 < 70000)
    (hdp : dp + 1 < recursionLimit) (hu : un + 8 < cLine)
    (hret : ∀ (r : Int) (tr : Tok) (f0 f1 : Int) (t0 t1 : Tok) h' tk', 0 ≤ r → r < mm → 0 ≤ f0 → 0 ≤ f1 → f1 < 70000 → Fr h₀ L h' m → News h₀ L h' ((fa, listOf [Value.int f0 t0, .int f1 t1].toArray fn) :: own) → Q (.int r tr) { s with heap := h', toks := tk' }) :
    wpAny (model PySem.Challenge.rw_xm0813_01.row.prog w) (ktrTop dp un gd cn cs L a ccd cl outer) (call (.ref 183) [.ref fa, .int mm tm]) Q E s := by
  revert X; k_fill; intro X
  refine wpAny_call ?_
  k_dflt cell_enter
  k_steps
  · refine hret _ _ _ _ _ _ _ _ (fm_lo hm0) (fm_hi hm0) (fd_lo hf0 hm0) hf1 hf2 (by assumption) (by assumption)
  · refine hret _ _ _ _ _ _ _ _ (fm_lo hm0) (fm_hi hm0) hf0 (fm_lo (n := 65119) (by decide)) (Int.lt_trans (fm_hi (n := 65119) (by decide)) (by decide)) (by assumption) (by assumption)
theorem furrow {w : World} {mean : ExcName → Option Value} {mg mb : Str → Option Value} {dp un : Nat} {gd : Option (List Code)} {cn : Str} {cs : Scope} {a : Addr} {ccd : Value} {cl : List (Str × Addr)} {outer : List Env} {A₀ : Around} {base h₀ : Heap} {L : Addr} {m : Str → Option Value} {s : Shared} {Q E : Value → Shared → Prop}
    {fa : Addr} {f0 f1 : Int} {t0 t1 : Tok} {fn : Nat} {news : List (Addr × Obj)} {mm : Int} {tm : Tok}
    (B : Below A₀ base outer h₀) (F : Fr h₀ L s.heap m) (X : (hd.heap_39 w.params).In h₀) (N : News h₀ L s.heap news) (hfa : (fa, listOf [Value.int f0 t0, .int f1 t1].toArray fn) ∈ news)
    (T : Top hd.view_39 (looseW hd.view_39 []) mean mg mb h₀) (hk : cs.kind = .function) (hm0 : 0 < mm) (hm1 : mm ≤ 401) (hf0 : 0 ≤ f0) (hf1 : 0 ≤ f1) (hf2 : f1 < 70000)
    (hdp : dp + 1 < recursionLimit) (hu : un + 8 < cLine)
    (hret : ∀ (r : Int) (tr : Tok) (g0 g1 : Int) (u0 u1 : Tok) h' tk', 0 ≤ r → r < mm → 0 ≤ g0 → 0 ≤ g1 → g1 < 70000 → Fr h₀ L h' m →
      (∀ news', Upd fa (listOf [Value.int f0 t0, .int f1 t1].toArray fn) (listOf [Value.int g0 u0, .int g1 u1].toArray fn) news news' → News h₀ L h' news') → Q (.int r tr) { s with heap := h', toks := tk' }) :
    wpAny (model PySem.Challenge.rw_xm0813_01.row.prog w) (ktrTop dp un gd cn cs L a ccd cl outer) (call (.ref 183) [.ref fa, .int mm tm]) Q E s :=
  furrow0 dp un gd cn cs a ccd cl outer A₀ base h₀ L m s Q E fa f0 f1 t0 t1 fn _ mm tm B F X (led_filter N hfa) off_filter T hk hm0 hm1 hf0 hf1 hf2 hdp hu
    fun r tr g0 g1 u0 u1 h' tk' a1 a2 a3 a4 a5 F' N' => hret r tr g0 g1 u0 u1 h' tk' a1 a2 a3 a4 a5 F' fun _ U => upd_led N' U
end
section
theorem pow15 {x : Int} (h : 10 ^ Int.toNat 15 ≤ x) : 0 ≤ x := Int.le_trans (by decide) h
theorem f1_lo (x : Int) : 0 ≤ x.fmod 65119 + 157 := by have := fm_lo (a := x) (n := 65119) (by decide); omega
theorem f1_hi (x : Int) : x.fmod 65119 + 157 < 70000 := by have := fm_hi (a := x) (n := 65119) (by decide); omega
theorem law_field {w : World} {mean : ExcName → Option Value} {mg mb : Str → Option Value} {dp un : Nat} {gd : Option (List Code)} {cn : Str} {cs : Scope} {a : Addr} {ccd : Value} {cl : List (Str × Addr)} {outer : List Env} {A₀ : Around} {base h₀ : Heap} {L : Addr} {m : Str → Option Value} {s : Shared} {Q E : Value → Shared → Prop}
    {l : Addr} {vs : List Value} {ns : List Int} {news : List (Addr × Obj)}
    (B : Below A₀ base outer h₀) (F : Fr h₀ L s.heap m) (X : (hd.heap_39 w.params).In h₀) (N : News h₀ L s.heap news) (hl : base.IsList l vs.toArray) (hi : IntsAre vs ns) (hfit : ns.length < 2 ^ 62)
    (T : Top hd.view_39 (looseW hd.view_39 []) mean mg mb h₀) (hk : cs.kind = .function) 
    (hdp : dp + 1 < recursionLimit) (hu : un + 8 < cLine)
    (hret : ∀ (r : Addr) (f0 f1 : Int) (t0 t1 : Tok) h' tk', 0 ≤ f0 → 0 ≤ f1 → f1 < 70000 → Fr h₀ L h' m → News h₀ L h' ((r, listOf [Value.int f0 t0, .int f1 t1].toArray 0) :: news) → (∀ p ∈ news, p.1 < r) → Q (.ref r) { s with heap := h', toks := tk' }) :
    wpAny (model PySem.Challenge.rw_xm0813_01.row.prog w) (ktrTop dp un gd cn cs L a ccd cl outer) (call (.ref 176) [.ref l]) Q E s := by
  revert X; k_fill; intro X
  refine wpAny_call ?_
  k_dflt cell_enter
  k_steps
  all_goals (refine hret _ _ _ _ _ _ _ ?_ ?_ ?_ (by assumption) (by assumption) (by assumption))
  all_goals first
    | exact Int.le_refl 0
    | exact pow15 (by assumption)
    | exact f1_lo _
    | exact f1_hi _
    | trace_state
end
section
theorem sub_at {prog : Program} {w : World} {A : Around} {E : Value → Shared → Prop} {s : Shared} {value slice : PySem.Expr} {h₀ : Heap} {L : Addr} {news : List (Addr × Obj)} {l : Addr} {vs : List Value} {nn : Nat} {k : Int} {u : Tok} {v : Value} {Q : Value → Shared → Prop}
    (N : News h₀ L s.heap news) (hm : (l, listOf vs.toArray nn) ∈ news) (h0 : 0 ≤ k) (hhi : k < 2 ^ 63) (hx : vs[k.toNat]? = some v) (h : Q v s)
    (hs : subscripted slice false (.ref l) (.int k u) = operate [.ref l, .int k u] (getItem (.ref l) (.int k u)) := by with_unfolding_all rfl) :
    wpAny (model prog w) A (subscriptTail value slice (.ref l) (.int k u)) Q E s :=
  have hl : s.heap.IsList l vs.toArray := ⟨_, (N _ hm).1, rfl, nn, rfl⟩
  tail_any hl.typeIs slot_list_getitem.lookup (wpAny_getItem_list hl h0 hhi (by simpa using hx) h) hs
theorem set_at {prog : Program} {w : World} {A : Around} {E : Value → Shared → Prop} {s : Shared} {h₀ : Heap} {L D : Addr} {m : Str → Option Value} {news news' : List (Addr × Obj)} {vs : List Value} {n : Nat} {k : Int} {t : Tok} {v : Value} {Q : Unit → Shared → Prop}
    (F : Fr h₀ L s.heap m) (N : News h₀ L s.heap news) (U : Upd D (listOf vs.toArray n) (listOf (vs.set k.toNat v).toArray n) news news') (h0 : 0 ≤ k) (h1 : k < vs.length) (hfit : k < 2 ^ 63)
    (h : ∀ h', Fr h₀ L h' m → News h₀ L h' news' → Q () { s with heap := h' }) :
    wpAny (model prog w) A (setItem (.ref D) (.int k t) v) Q E s := by
  obtain ⟨pre, post, rfl, rfl, a, b⟩ := U.split
  have z := N (D, listOf vs.toArray n) (List.mem_append.mpr (.inr (.head _)))
  refine ki_setAt z.1 h0 hfit (by rw [List.size_toArray]; exact h1) (h _ (F.change (Heap.SameBut.update ..) z.2.1 z.2.2) (ki_turn _ N a b ?_ ?_))
  · show vs.toArray.setIfInBounds k.toNat v = (vs.set k.toNat v).toArray
    apply Array.toList_inj.mp
    simp
  · simp
theorem led_list {h₀ h : Heap} {L l : Addr} {news : List (Addr × Obj)} {vs : List Value} {n : Nat} (N : News h₀ L h news) (hm : (l, listOf vs.toArray n) ∈ news) : h.IsList l vs.toArray := ⟨_, (N _ hm).1, rfl, n, rfl⟩
def CellIs (own : List (Addr × Obj)) (c : Value) (v : Int) : Prop := (c = .none ∧ v = 0) ∨ ∃ q t rest nq, c = .ref q ∧ (q, listOf (Value.int v t :: rest).toArray nq) ∈ own
abbrev gridDict (P : Params) (n1 n2 : Nat) (tm : Tok) (pl : Addr) : Obj := dictOf [⟨PyData.keyHash P (Str.ofString "many"), .str (Str.ofString "many") n1, .int 4 tm⟩, ⟨PyData.keyHash P (Str.ofString "planes"), .str (Str.ofString "planes") n2, .ref pl⟩] 2
section
variable {w : World} {mean : ExcName → Option Value} {mg mb : Str → Option Value} {dp un : Nat} {gd : Option (List Code)} {cn : Str} {cs : Scope} {a : Addr} {ccd : Value} {cl : List (Str × Addr)} {outer : List Env} {A₀ : Around} {base h₀ : Heap} {L : Addr} {m : Str → Option Value} {s : Shared} {Q E : Value → Shared → Prop}
local macro_rules | `(tactic| k_mem) => `(tactic| assumption)
local macro_rules | `(tactic| walk_at "subscriptTail") => `(tactic| (k_here; (with_reducible show wpAny _ _ (subscriptTail _ _ (Value.ref _) (Value.int _ _)) _ _ _); (with_unfolding_all refine' sub_at ?k1 ?k2 ?k3 ?k4 ?k5 ?_ ?k6; (case k1 => k_asm); (case k2 => k_mem); (case k3 => first | assumption | decide); (case k4 => omega); (case k5 => first | assumption | rfl); (case k6 => with_unfolding_all rfl); k_whole)))
local macro_rules | `(tactic| walk_at "setItem ref int") => `(tactic| (k_here; (with_reducible show wpAny _ _ (setItem (Value.ref _) (Value.int _ _) _) _ _ _); (with_unfolding_all refine' set_at ?k1 ?k2 ?k3 ?k4 ?k5 ?k6 ?_; (case k1 | k2 => k_asm); (case k3 => k_upd); (case k4 | k5 => assumption); (case k6 => omega); k_whole); intro h' F' N'; (try k_sweep)))
local macro_rules | `(tactic| walk_at "call type:list") => `(tactic| (k_here; (with_reducible show wpAny _ _ (call (Value.type _) [Value.ref _]) _ _ _); (with_unfolding_all (refine' list_copyK ?k1 ?k2 (led_list ?k3 ?k4) ?_ ?z; (case k1 | k2 | k3 => k_asm); (case k4 => k_mem); (case z => (rw [sizeLine_eq, List.size_toArray]; omega)); k_whole)); intro D' c' h' F' N' l2; (have l1 := l2); (try k_lt l1); (try k_sweep)))
theorem get0 {own : List (Addr × Obj)} {x y : Int} {tx ty tz tm : Tok} {g gdd pl p0 r : Addr} {n1 n2 n3 np nr : Nat} {prs ces : List Value} {more : List Value} {c : Value} {v : Int}
    (B : Below A₀ base outer h₀) (F : Fr h₀ L s.heap m) (X : (hd.heap_39 w.params).In h₀) (N : News h₀ L s.heap own)
    (hg : (g, instObj 165 gdd) ∈ own) (hgd : (gdd, gridDict w.params n1 n2 tm pl) ∈ own) (hpl : (pl, listOf (Value.ref p0 :: more).toArray n3) ∈ own)
    (hp : (p0, listOf prs.toArray np) ∈ own) (hy0 : 0 ≤ y) (hy1 : y < 4) (hx0 : 0 ≤ x) (hx1 : x < 4) (hpy : prs[y.toNat]? = some (.ref r)) (hr : (r, listOf ces.toArray nr) ∈ own) (hrx : ces[x.toNat]? = some c) (hc : CellIs own c v)
    (T : Top hd.view_39 (looseW hd.view_39 []) mean mg mb h₀) (hk : cs.kind = .function) (hdp : dp + 1 < recursionLimit) (hu : un + 8 < cLine)
    (hret : ∀ (q : Addr) (tr : Tok) rest h' tk', Fr h₀ L h' m → News h₀ L h' own → h'.IsList q (Value.int v tr :: rest).toArray → Q (.ref q) { s with heap := h', toks := tk' }) :
    wpAny (model PySem.Challenge.rw_xm0813_01.row.prog w) (ktrTop dp un gd cn cs L a ccd cl outer) (call (.ref 148) [.ref g, .int 0 tz, .int x tx, .int y ty]) Q E s := by
  revert X; k_fill; intro X
  rcases hc with ⟨rfl, rfl⟩ | ⟨q, t, rest, nq, rfl, hq⟩
  all_goals (
    refine wpAny_call ?_
    k_dflt cell_enter
    k_steps)
  · rename News h₀ L _ _ => N9
    exact hret _ _ _ _ _ (by assumption) (fun p hp => N9 p (.tail _ (.tail _ hp))) (led_list (vs := Value.int 0 _ :: _) N9 (.head _))
  · rename News h₀ L _ _ => N9
    exact hret _ _ _ _ _ (by assumption) N9 (led_list N9 hq)
theorem put0 {own : List (Addr × Obj)} {x y : Int} {tx ty tz tm : Tok} {g gdd pl p0 r row : Addr} {n1 n2 n3 np nr nw : Nat} {prs ces vs : List Value} {more : List Value}
    (B : Below A₀ base outer h₀) (F : Fr h₀ L s.heap m) (X : (hd.heap_39 w.params).In h₀) 
    (N : News h₀ L s.heap ((r, listOf ces.toArray nr) :: own)) (ho : OwnOff own [r])
    (hg : (g, instObj 165 gdd) ∈ own) (hgd : (gdd, gridDict w.params n1 n2 tm pl) ∈ own) (hpl : (pl, listOf (Value.ref p0 :: more).toArray n3) ∈ own)
    (hp : (p0, listOf prs.toArray np) ∈ own) (hrow : (row, listOf vs.toArray nw) ∈ own) (hvs : vs.length < 2 ^ 20)
    (hy0 : 0 ≤ y) (hy1 : y < 4) (hx0 : 0 ≤ x) (hx1 : x < 4) (hpy : prs[y.toNat]? = some (.ref r)) (hrx : x < ces.length)
    (T : Top hd.view_39 (looseW hd.view_39 []) mean mg mb h₀) (hk : cs.kind = .function) (hdp : dp + 1 < recursionLimit) (hu : un + 8 < cLine)
    (hret : ∀ (q : Addr) nq h' tk', Fr h₀ L h' m → News h₀ L h' ((q, listOf vs.toArray nq) :: (r, listOf (ces.set x.toNat (.ref q)).toArray nr) :: own) →
       (∀ p ∈ own, p.1 < q) → r < q → Q .none { s with heap := h', toks := tk' }) :
    wpAny (model PySem.Challenge.rw_xm0813_01.row.prog w) (ktrTop dp un gd cn cs L a ccd cl outer) (call (.ref 162) [.ref g, .int 0 tz, .int x tx, .int y ty, .ref row]) Q E s := by
  revert X; k_fill; intro X
  refine wpAny_call ?_
  k_dflt cell_enter
  k_steps
  rename ∀ q ∈ _ :: own, _ => l9
  exact hret _ _ _ _ (by assumption) (by assumption) (fun p hp => l9 p (.tail _ hp)) (l9 _ (.head _))
end
end
section
def CellOff (own : List (Addr × Obj)) (high : Int) (ra : Int → Addr) (c : Value) (v : Int) : Prop :=
  (c = .none ∧ v = 0) ∨ ∃ q t rest nq, c = .ref q ∧ (q, listOf (Value.int v t :: rest).toArray nq) ∈ own ∧ ∀ y, 0 ≤ y → y < high → q ≠ ra y
theorem CellOff.is {own : List (Addr × Obj)} {high : Int} {ra : Int → Addr} {c : Value} {v : Int} (h : CellOff own high ra c v) : CellIs own c v := by
  rcases h with h | ⟨q, t, rest, nq, e, hm, _⟩
  · exact .inl h
  · exact .inr ⟨q, t, rest, nq, e, hm⟩
theorem CellOff.mono {own own' : List (Addr × Obj)} {high : Int} {ra : Int → Addr} {c : Value} {v : Int} (h : CellOff own high ra c v) (hs : ∀ p ∈ own, (∀ y, 0 ≤ y → y < high → p.1 ≠ ra y) → p ∈ own') : CellOff own' high ra c v := by
  rcases h with h | ⟨q, t, rest, nq, e, hm, ho⟩
  · exact .inl h
  · exact .inr ⟨q, t, rest, nq, e, hs _ hm ho, ho⟩
structure GridAt (P : Params) (own : List (Addr × Obj)) (g : Addr) (wide high : Int) (ra : Int → Addr) (G : Int → Int → Int) : Prop where
  core : ∃ (gdd pl p0 : Addr) (n1 n2 : Nat) (tm : Tok) (more : List Value) (n3 : Nat) (prs : List Value) (np : Nat), (g, instObj 165 gdd) ∈ own ∧ (gdd, gridDict P n1 n2 tm pl) ∈ own ∧ (pl, listOf (Value.ref p0 :: more).toArray n3) ∈ own ∧
    (p0, listOf prs.toArray np) ∈ own ∧ ∀ y, 0 ≤ y → y < high → prs[y.toNat]? = some (.ref (ra y)) ∧ g ≠ ra y ∧ gdd ≠ ra y ∧ pl ≠ ra y ∧ p0 ≠ ra y
  inj : ∀ y y', 0 ≤ y → y < high → 0 ≤ y' → y' < high → ra y = ra y' → y = y'
  rows : ∀ y, 0 ≤ y → y < high → ∃ (ces : List Value) (nr : Nat), (ra y, listOf ces.toArray nr) ∈ own ∧ (ces.length : Int) = wide ∧
    ∀ x, 0 ≤ x → x < wide → ∃ c, ces[x.toNat]? = some c ∧ CellOff own high ra c (G y x)
theorem GridAt.mono {P : Params} {own own' : List (Addr × Obj)} {g : Addr} {wide high : Int} {ra : Int → Addr} {G : Int → Int → Int} (h : GridAt P own g wide high ra G) (hs : ∀ p ∈ own, p ∈ own') : GridAt P own' g wide high ra G := by
  obtain ⟨gdd, pl, p0, n1, n2, tm, more, n3, prs, np, a, b, c, d, e⟩ := h.core
  refine ⟨⟨gdd, pl, p0, n1, n2, tm, more, n3, prs, np, hs _ a, hs _ b, hs _ c, hs _ d, e⟩, h.inj, fun y h0 h1 => ?_⟩
  obtain ⟨ces, nr, a, b, c⟩ := h.rows y h0 h1
  refine ⟨ces, nr, hs _ a, b, fun x hx0 hx1 => ?_⟩
  obtain ⟨ce, d, e⟩ := c x hx0 hx1
  exact ⟨ce, d, e.mono fun p hp _ => hs p hp⟩
section
variable {w : World} {mean : ExcName → Option Value} {mg mb : Str → Option Value} {dp un : Nat} {gd : Option (List Code)} {cn : Str} {cs : Scope} {a : Addr} {ccd : Value} {cl : List (Str × Addr)} {outer : List Env} {A₀ : Around} {base h₀ : Heap} {L : Addr} {m : Str → Option Value} {s : Shared} {Q E : Value → Shared → Prop}
theorem get1 {news : List (Addr × Obj)} {x y : Int} {tx ty tz : Tok} {g : Addr} {wide high : Int} {ra : Int → Addr} {G : Int → Int → Int}
    (B : Below A₀ base outer h₀) (F : Fr h₀ L s.heap m) (X : (hd.heap_39 w.params).In h₀) (N : News h₀ L s.heap news) (GA : GridAt w.params news g wide high ra G)
    (hy0 : 0 ≤ y) (hy1 : y < high) (hx0 : 0 ≤ x) (hx1 : x < wide) (hy4 : high ≤ 4) (hx4 : wide ≤ 4)
    (T : Top hd.view_39 (looseW hd.view_39 []) mean mg mb h₀) (hk : cs.kind = .function) (hdp : dp + 1 < recursionLimit) (hu : un + 8 < cLine)
    (hret : ∀ (q : Addr) (tr : Tok) rest h' tk', Fr h₀ L h' m → News h₀ L h' news → h'.IsList q (Value.int (G y x) tr :: rest).toArray → Q (.ref q) { s with heap := h', toks := tk' }) :
    wpAny (model PySem.Challenge.rw_xm0813_01.row.prog w) (ktrTop dp un gd cn cs L a ccd cl outer) (call (.ref 148) [.ref g, .int 0 tz, .int x tx, .int y ty]) Q E s := by
  obtain ⟨gdd, pl, p0, n1, n2, tm, more, n3, prs, np, a, b, c, d, e⟩ := GA.core
  obtain ⟨ces, nr, r1, r2, r3⟩ := GA.rows y hy0 hy1
  obtain ⟨ce, r4, r5⟩ := r3 x hx0 hx1
  exact get0 B F X N a b c d hy0 (by omega) hx0 (by omega) (e y hy0 hy1).1 r1 r4 r5.is T hk hdp hu hret
theorem put1 {own news : List (Addr × Obj)} {x y : Int} {tx ty tz : Tok} {g row : Addr} {wide high : Int} {ra : Int → Addr} {G : Int → Int → Int} {adr : List Addr} {v : Int} {tv : Tok} {rest : List Value} {nw : Nat}
    (B : Below A₀ base outer h₀) (F : Fr h₀ L s.heap m) (X : (hd.heap_39 w.params).In h₀) (N : News h₀ L s.heap news) (hn : ∀ p ∈ own, p ∈ news) (GA : GridAt w.params own g wide high ra G) (ho : OwnOff own adr) (ha : ∀ b ∈ adr, ∃ o, (b, o) ∈ news)
    (hrow : (row, listOf (Value.int v tv :: rest).toArray nw) ∈ news) (hra : row ∈ adr) (hvs : (Value.int v tv :: rest).length < 2 ^ 20)
    (hy0 : 0 ≤ y) (hy1 : y < high) (hx0 : 0 ≤ x) (hx1 : x < wide) (hy4 : high ≤ 4) (hx4 : wide ≤ 4)
    (T : Top hd.view_39 (looseW hd.view_39 []) mean mg mb h₀) (hk : cs.kind = .function) (hdp : dp + 1 < recursionLimit) (hu : un + 8 < cLine)
    (hret : ∀ own' h' tk', Fr h₀ L h' m → GridAt w.params own' g wide high ra (fun b a => if b = y ∧ a = x then v else G b a) → OwnOff own' adr → (∀ p ∈ own, p.1 ≠ ra y → p ∈ own') →
      (∀ news', (∀ p ∈ news', p ∈ own' ∨ (p ∈ news ∧ p.1 ∈ adr)) → News h₀ L h' news') → Q .none { s with heap := h', toks := tk' }) :
    wpAny (model PySem.Challenge.rw_xm0813_01.row.prog w) (ktrTop dp un gd cn cs L a ccd cl outer) (call (.ref 162) [.ref g, .int 0 tz, .int x tx, .int y ty, .ref row]) Q E s := by
  obtain ⟨gdd, pl, p0, n1, n2, tm, more, n3, prs, np, a, b, c, d, e⟩ := GA.core
  obtain ⟨ces, nr, r1, r2, r3⟩ := GA.rows y hy0 hy1
  obtain ⟨e0, e1, e2, e3, e4⟩ := e y hy0 hy1
  have inF : ∀ p ∈ news, p.1 ≠ ra y → p ∈ news.filter fun p => decide (p.1 ≠ ra y) := fun p hp hq => List.mem_filter.mpr ⟨hp, by simpa using hq⟩
  have rOff : row ≠ ra y := fun q => ho _ r1 row hra q.symm
  refine put0 (own := news.filter fun p => decide (p.1 ≠ ra y)) B F X (led_filter N (hn _ r1)) off_filter (inF _ (hn _ a) e1) (inF _ (hn _ b) e2) (inF _ (hn _ c) e3) (inF _ (hn _ d) e4) (inF _ hrow rOff) hvs hy0 (by omega) hx0 (by omega) e0 (by omega) T hk hdp hu ?_
  intro q nq h' tk' F' N' hlt hrq
  have hadr : ∀ b ∈ adr, b < q := fun b hb => by
    obtain ⟨o, hbo⟩ := ha b hb
    refine hlt (b, o) (inF _ hbo fun z => ?_)
    exact ho _ r1 b hb z.symm
  have hraq : ∀ y', 0 ≤ y' → y' < high → ra y' ≠ q := fun y' h0 h1 => by
    by_cases hyy : ra y' = ra y
    · rw [hyy]; exact Nat.ne_of_lt hrq
    · obtain ⟨ces', nr', r1', _⟩ := GA.rows y' h0 h1
      exact Nat.ne_of_lt (hlt _ (inF _ (hn _ r1') hyy))
  have inO : ∀ p ∈ own, p.1 ≠ ra y → p ∈ (q, listOf (Value.int v tv :: rest).toArray nq) :: (ra y, listOf (ces.set x.toNat (.ref q)).toArray nr) :: own.filter fun p => decide (p.1 ≠ ra y) := fun p hp hq =>
    .tail _ (.tail _ (List.mem_filter.mpr ⟨hp, by simpa using hq⟩))
  have inC : ∀ p ∈ own, (∀ y, 0 ≤ y → y < high → p.1 ≠ ra y) → p ∈ (q, listOf (Value.int v tv :: rest).toArray nq) :: (ra y, listOf (ces.set x.toNat (.ref q)).toArray nr) :: own.filter fun p => decide (p.1 ≠ ra y) := fun p hp hq =>
    inO p hp (hq y hy0 hy1)
  refine hret ((q, listOf (Value.int v tv :: rest).toArray nq) :: (ra y, listOf (ces.set x.toNat (.ref q)).toArray nr) :: own.filter fun p => decide (p.1 ≠ ra y)) h' tk' F' ⟨?_, GA.inj, ?_⟩ ?_ inO ?_
  · exact ⟨gdd, pl, p0, n1, n2, tm, more, n3, prs, np, inO _ a e1, inO _ b e2, inO _ c e3, inO _ d e4, e⟩
  · intro y' h0 h1
    by_cases hyy : y' = y
    · subst hyy
      refine ⟨_, nr, .tail _ (.head _), by rw [List.length_set]; exact r2, fun x' hx0' hx1' => ?_⟩
      by_cases hxx : x' = x
      · subst hxx
        refine ⟨.ref q, List.getElem?_set_self (by omega), .inr ⟨q, tv, rest, nq, rfl, ?_, fun y' h0 h1 => (hraq y' h0 h1).symm⟩⟩
        simp
      · obtain ⟨ce, r4, r5⟩ := r3 x' hx0' hx1'
        refine ⟨ce, ?_, ?_⟩
        · rw [List.getElem?_set_ne (by omega)]; exact r4
        · simp only [hxx, and_false, if_false]
          exact r5.mono inC
    · obtain ⟨ces', nr', r1', r2', r3'⟩ := GA.rows y' h0 h1
      refine ⟨ces', nr', inO _ r1' fun z => hyy (GA.inj y' y h0 h1 hy0 hy1 z), r2', fun x' hx0' hx1' => ?_⟩
      obtain ⟨ce, r4, r5⟩ := r3' x' hx0' hx1'
      refine ⟨ce, r4, ?_⟩
      simp only [hyy, false_and, if_false]
      exact r5.mono inC
  · intro p hp b hb
    rcases List.mem_cons.mp hp with rfl | hp
    · exact (Nat.ne_of_lt (hadr b hb)).symm
    · rcases List.mem_cons.mp hp with rfl | hp
      · exact ho _ r1 b hb
      · exact ho p (List.mem_filter.mp hp).1 b hb
  · intro news' hs p hp
    rcases hs p hp with h | ⟨h, hb⟩
    · rcases List.mem_cons.mp h with rfl | h
      · exact N' _ (.head _)
      · rcases List.mem_cons.mp h with rfl | h
        · exact N' _ (.tail _ (.head _))
        · have h2 := List.mem_filter.mp h
          exact N' p (.tail _ (.tail _ (List.mem_filter.mpr ⟨hn p h2.1, h2.2⟩)))
    · exact N' p (.tail _ (.tail _ (inF p h fun z => ho _ r1 _ hb z.symm)))
end
end
section
def keptI (place size : Int) : Int := if (if place < size - 1 then place else size - 1) > 0 then if place < size - 1 then place else size - 1 else 0
theorem kept {w : World} {mean : ExcName → Option Value} {mg mb : Str → Option Value} {dp un : Nat} {gd : Option (List Code)} {cn : Str} {cs : Scope} {a : Addr} {ccd : Value} {cl : List (Str × Addr)} {outer : List Env} {A₀ : Around} {base h₀ : Heap} {L : Addr} {m : Str → Option Value} {s : Shared} {Q E : Value → Shared → Prop}
    {news : List (Addr × Obj)} {place size : Int} {tp ts : Tok}
    (B : Below A₀ base outer h₀) (F : Fr h₀ L s.heap m) (X : (hd.heap_39 w.params).In h₀) (N : News h₀ L s.heap news)
    (T : Top hd.view_39 (looseW hd.view_39 []) mean mg mb h₀) (hk : cs.kind = .function) 
    (hdp : dp + 1 < recursionLimit) (hu : un + 8 < cLine)
    (hret : ∀ (tr : Tok) h' tk', Fr h₀ L h' m → News h₀ L h' news → Q (.int (keptI place size) tr) { s with heap := h', toks := tk' }) :
    wpAny (model PySem.Challenge.rw_xm0813_01.row.prog w) (ktrTop dp un gd cn cs L a ccd cl outer) (call (.ref 28) [.int place tp, .int size ts]) Q E s := by
  revert X; k_fill; intro X
  refine wpAny_call ?_
  k_dflt cell_enter
  k_steps
  exact hret _ _ _ (by assumption) (by assumption)
end
section
section
variable {prog : Program} {w : World} {A : Around} {E : Value → Shared → Prop} {s : Shared} {env : Env} {h₀ : Heap} {x : Str} {body : List Stmt} {Q : Flow → Shared → Prop}
def TurnJ (x : Str) (stored : List Str) (m₀ : Str → Option Value) (R : List (Addr × Obj) → Prop) (m : Str → Option Value) (nx : List (Addr × Obj)) : Prop :=
  (∀ y, y ≠ x → stored.contains y = false → m y = m₀ y) ∧ R nx
theorem frIn {L : Addr} {h : Heap} {stored : List Str} {m₀ m₁ : Str → Option Value} {v : Value} (hm : ∀ y, y ≠ x → stored.contains y = false → m₁ y = m₀ y) (F : Fr h₀ L h (fun y => if y = x then some v else m₁ y)) :
    Fr h₀ L h (fun y => if y = x then some v else if stored.contains y then m₁ y else m₀ y) := by
  have e : (fun y => if y = x then some v else m₁ y) = fun y => if y = x then some v else if stored.contains y then m₁ y else m₀ y := by
    funext y
    by_cases h1 : y = x
    · simp [h1]
    · simp only [if_neg h1]
      cases h2 : stored.contains y with
      | true => simp
      | false => simp only [Bool.false_eq_true, if_false]; exact hm y h1 h2
  exact e ▸ F
theorem frOut {L : Addr} {h : Heap} {stored : List Str} {m₀ m₁ : Str → Option Value} (hm : ∀ y, y ≠ x → stored.contains y = false → m₁ y = m₀ y) (F : Fr h₀ L h m₁) :
    Fr h₀ L h (fun y => if y = x then m₁ y else if stored.contains y then m₁ y else m₀ y) := by
  have e : (fun y => if y = x then m₁ y else if stored.contains y then m₁ y else m₀ y) = m₁ := by
    funext y
    by_cases h1 : y = x
    · simp [h1]
    · simp only [if_neg h1]
      cases h2 : stored.contains y with
      | true => simp
      | false => simp only [Bool.false_eq_true, if_false]; exact (hm y h1 h2).symm
  rw [e]; exact F
theorem loop_one {I : Addr} {fp : List Addr} {n : Nat} {P : Nat → Value → Prop} {St : Nat → Heap → Prop} {m₀ : Str → Option Value} {news : List (Addr × Obj)} (stored : List Str) (R : Nat → List (Addr × Obj) → Prop)
    (W : Walks prog w A I fp [I] n P St) (hIf : I ∈ fp) (hI0 : h₀.get? I = none) (hob : ∀ i h, St i h → ∃ o, h.get? I = some o)
    (hfp : ∀ b ∈ fp, b = I ∨ ∃ o, ∀ i nx, R i nx → (b, o) ∈ nx)
    (hLf : env.locals ∉ fp) (hnw : ∀ p ∈ news, p.1 ∉ [I]) (hst : St 0 s.heap) (F : Fr h₀ env.locals s.heap m₀) (N : News h₀ env.locals s.heap news) (hj : R 0 news)
    (turn : ∀ i v (u : Str → Option Value) nx h tk oI, i < n → P i v → (∀ p ∈ nx, p.1 ≠ I) → R i nx → Fr h₀ env.locals h (fun y => if y = x then some v else if stored.contains y then u y else m₀ y) → News h₀ env.locals h ((I, oI) :: nx) →
      wpAny (model prog w) A (execs body env) (InvPostG h₀ env.locals (TurnJ x stored m₀ (R (i + 1))) [(I, oI)] { s with heap := h, toks := tk } Q) E { s with heap := h, toks := tk })
    (done : ∀ (u : Str → Option Value) nx h tk, R n nx → Fr h₀ env.locals h (fun y => if y = x then u y else if stored.contains y then u y else m₀ y) → News h₀ env.locals h nx → Q .next { s with heap := h, toks := tk }) :
    LoopAtV prog w A h₀ env x body Q E (.ref I) s := by
  refine ⟨I, fp, [I], n, P, St, m₀, news, (fun i m nx => TurnJ x stored m₀ (R i) m nx), rfl, W, hLf, ?_, hnw, hst, F, N, ⟨fun _ _ _ => rfl, hj⟩, ?_, ?_⟩
  · intro b hb
    rw [List.mem_singleton.mp hb]
    exact hI0
  · rintro i v m₁ nx s₁ own ⟨hh', tk', rfl⟩ hin hP ⟨hm, hR⟩ hoff hown hget hall hst' F₁ N₁
    obtain ⟨oI, hoI⟩ := hob _ _ hst'
    have hIo : (I, oI) ∈ own := hall I hIf hI0 oI hoI
    have hoffI : ∀ p ∈ nx, p.1 ≠ I := fun p hp e => hoff p hp (List.mem_singleton.mpr e)
    have N₂ : News h₀ env.locals hh' ((I, oI) :: nx) := fun p hp => by
      rcases List.mem_cons.mp hp with rfl | hp
      · exact N₁ _ (List.mem_append_left _ hIo)
      · exact N₁ _ (List.mem_append_right _ hp)
    have hone : ∀ p ∈ own, ∀ nx', R (i + 1) nx' → p = (I, oI) ∨ p ∈ nx' := by
      intro p hp nx' hR'
      rcases hfp p.1 (hown p hp) with e | ⟨o, ho⟩
      · left
        have h4 := hget p hp
        rw [e, hoI] at h4
        exact Prod.ext e (Option.some.inj h4).symm
      · right
        have h4 := hget p hp
        have h5 := (N₁ _ (List.mem_append_right _ (ho i nx hR))).1
        rw [h5] at h4
        have h6 : p = (p.1, o) := Prod.ext rfl (Option.some.inj h4).symm
        rw [h6]
        exact ho (i + 1) nx' hR'
    refine wpAny_mono (turn i v m₁ nx hh' tk' oI hin hP hoffI hR (frIn hm F₁) N₂) (fun f s₂ p => ?_) fun _ _ e => e
    have fin : InvEndG h₀ env.locals (TurnJ x stored m₀ (R (i + 1))) [(I, oI)] { s with heap := hh', toks := tk' } s₂ → LoopStepU h₀ env.locals [I] own (TurnJ x stored m₀ (R (i + 1))) { s with heap := hh', toks := tk' } .next s₂ := by
      rintro ⟨h', tk, m', news', nx', e, F', N', hn, ho, ha, hm', hR'⟩
      refine ⟨rfl, h', tk, m', nx', e, F', fun p hp => ?_, fun p hp hq => ?_, hm', hR'⟩
      · rcases List.mem_append.mp hp with hp | hp
        · rcases hone p hp nx' hR' with rfl | hp
          · exact N' _ (ho _ (.head _))
          · exact N' _ (hn _ hp)
        · exact N' _ (hn p hp)
      · exact ha _ (.head _) p.1 (List.mem_map.mpr ⟨p, hp, rfl⟩) (List.mem_singleton.mp hq).symm
    cases f with
    | ret v => exact .ret p
    | brk => exact .brk p
    | next => exact .next (fin p)
    | cont => exact .cont (fin p)
  · rintro h' tk m' news' F' N' _ ⟨hm, hR⟩
    exact done m' news' h' tk hR (frOut hm F') N'
theorem range_inv {r : Addr} {a₀ b₀ : Int} {t₀ u₀ v₀ : Tok} {n : Nat} {m₀ : Str → Option Value} {news all : List (Addr × Obj)} (stored : List Str) (R : Nat → List (Addr × Obj) → Prop)
    (hh : A.handled = none) (hr : IsRange s.heap r a₀ b₀ 1 t₀ u₀ v₀) (hsmall : Builtin.Range.small a₀ b₀ 1 = true) (hsz : Builtin.Range.rangeSize a₀ b₀ 1 = (n : Int)) (F : Fr h₀ env.locals s.heap m₀) (N : News h₀ env.locals s.heap all) (hn : ∀ p ∈ news, p ∈ all) (hj : R 0 news)
    (turn : ∀ (i : Nat) t (u : Str → Option Value) nx h tk I oI, i < n → (∀ p ∈ nx, p.1 ≠ I) → R i nx → Fr h₀ env.locals h (fun y => if y = x then some (.int (a₀ + (i : Int)) t) else if stored.contains y then u y else m₀ y) → News h₀ env.locals h ((I, oI) :: nx) →
      wpAny (model prog w) A (execs body env) (InvPostG h₀ env.locals (TurnJ x stored m₀ (R (i + 1))) [(I, oI)] { s with heap := h, toks := tk } Q) E { s with heap := h, toks := tk })
    (done : ∀ (u : Str → Option Value) nx h tk, R n nx → Fr h₀ env.locals h (fun y => if y = x then u y else if stored.contains y then u y else m₀ y) → News h₀ env.locals h nx → Q .next { s with heap := h, toks := tk }) :
    wpAny (model prog w) A (pyIter (.ref r)) (fun it s₂ => LoopAtV prog w A h₀ env x body Q E it s₂) E s := by
  refine wpAny_pyIter_range hr hsmall ?_
  have W : Walks prog w A s.heap.objs.size [s.heap.objs.size] [s.heap.objs.size] n (fun i v => i < n ∧ ∃ t, v = .int (a₀ + i * 1) t)
      (fun i h => IsRangeIter h s.heap.objs.size (a₀ + (i : Nat) * 1) ((n : Int) - (i : Nat)) 1) := (Walks.range hh _ a₀ 1 n).bound
  refine loop_one stored R W (.head _) (next_is_new F) (fun i h hi => ⟨_, hi⟩) (fun b hb => .inl (List.mem_singleton.mp hb)) ?_ ?_ (by show IsRangeIter _ _ _ _ _; rw [hsz]; simpa using Heap.get?_push_size _ rfl) (F.push _) (fun p hp => ⟨Heap.get?_push_of_some _ (N p (hn p hp)).1, (N p (hn p hp)).2⟩) hj ?_ done
  · intro hm
    exact absurd F.ns.lt ((List.mem_singleton.mp hm) ▸ Nat.lt_irrefl _)
  · intro p hp hI
    exact absurd (Heap.lt_size (N p (hn p hp)).1) ((List.mem_singleton.mp hI) ▸ Nat.lt_irrefl _)
  · rintro i v u nx h tk oI hi ⟨_, t, rfl⟩ hoff hR F₁ N₁
    have e1 : a₀ + (i : Int) * 1 = a₀ + (i : Int) := by omega
    rw [e1] at F₁
    exact turn i t u nx h tk _ oI hi hoff hR F₁ N₁
theorem tuple_inv {ax : Addr} {lo : Obj} {vs : List Value} {nn : Nat} {m₀ : Str → Option Value} {news all : List (Addr × Obj)} (stored : List Str) (R : Nat → List (Addr × Obj) → Prop)
    (hh : A.handled = none) (hm : (ax, lo) ∈ all) (hc : lo.cls = .type "tuple") (hd : lo.data = .seq vs.toArray nn) (F : Fr h₀ env.locals s.heap m₀) (N : News h₀ env.locals s.heap all) (hn : ∀ p ∈ news, p ∈ all) (hj : R 0 news)
    (hR : ∀ i nx, R i nx → (ax, lo) ∈ nx)
    (turn : ∀ (i : Nat) v (u : Str → Option Value) nx h tk I oI, vs[i]? = some v → (∀ p ∈ nx, p.1 ≠ I) → R i nx → Fr h₀ env.locals h (fun y => if y = x then some v else if stored.contains y then u y else m₀ y) → News h₀ env.locals h ((I, oI) :: nx) →
      wpAny (model prog w) A (execs body env) (InvPostG h₀ env.locals (TurnJ x stored m₀ (R (i + 1))) [(I, oI)] { s with heap := h, toks := tk } Q) E { s with heap := h, toks := tk })
    (done : ∀ (u : Str → Option Value) nx h tk, R vs.length nx → Fr h₀ env.locals h (fun y => if y = x then u y else if stored.contains y then u y else m₀ y) → News h₀ env.locals h nx → Q .next { s with heap := h, toks := tk }) :
    wpAny (model prog w) A (pyIter (.ref ax)) (fun it s₂ => LoopAtV prog w A h₀ env x body Q E it s₂) E s := by
  have hax := N _ hm
  have hl : s.heap.IsTuple ax vs.toArray := ⟨lo, hax.1, hc, nn, hd⟩
  have hne : ax ≠ s.heap.objs.size := Nat.ne_of_lt (Heap.lt_size hax.1)
  refine wpAny_pyIter_tuple hl ?_
  have W := Walks.tuple (prog := prog) (w := w) hh s.heap.objs.size ax hne vs.toArray
  have hlen : vs.toArray.size = vs.length := by simp
  rw [hlen] at W
  refine loop_one stored R W (.head _) (next_is_new F) (fun i h hi => ?_) (fun b hb => ?_) ?_ ?_ ⟨⟨_, Heap.get?_push_size _ rfl, rfl, rfl⟩, hl.at fun o e => Heap.get?_push_of_some _ e⟩ (F.push _) (fun p hp => ⟨Heap.get?_push_of_some _ (N p (hn p hp)).1, (N p (hn p hp)).2⟩) hj ?_ done
  · obtain ⟨o, ho, _⟩ := hi.1
    exact ⟨o, ho⟩
  · rcases List.mem_cons.mp hb with e | hb
    · exact .inl e
    · rw [List.mem_singleton.mp hb]
      exact .inr ⟨lo, hR⟩
  · intro hI
    rcases List.mem_cons.mp hI with e | hI
    · exact absurd F.ns.lt (e ▸ Nat.lt_irrefl _)
    · exact hax.2.1 (List.mem_singleton.mp hI).symm
  · intro p hp hI
    exact absurd (Heap.lt_size (N p (hn p hp)).1) ((List.mem_singleton.mp hI) ▸ Nat.lt_irrefl _)
  · intro i v u nx h tk oI hi hP hoff hR' F₁ N₁
    exact turn i v u nx h tk _ oI (by simpa using hP) hoff hR' F₁ N₁
end
end
section
theorem keptI_lo {p n : Int} : 0 ≤ keptI p n := by unfold keptI; split <;> omega
theorem keptI_hi {p n : Int} (h : 0 < n) : keptI p n < n := by unfold keptI; split <;> (split <;> omega)
theorem sub_il {prog : Program} {w : World} {A : Around} {E : Value → Shared → Prop} {s : Shared} {value slice : PySem.Expr} {l : Addr} {vs : List Value} {k : Int} {u : Tok} {v : Value} {Q : Value → Shared → Prop}
    (hl : s.heap.IsList l vs.toArray) (h0 : 0 ≤ k) (hhi : k < 2 ^ 63) (hx : vs[k.toNat]? = some v) (h : Q v s)
    (hs : subscripted slice false (.ref l) (.int k u) = operate [.ref l, .int k u] (getItem (.ref l) (.int k u)) := by with_unfolding_all rfl) :
    wpAny (model prog w) A (subscriptTail value slice (.ref l) (.int k u)) Q E s :=
  tail_any hl.typeIs slot_list_getitem.lookup (wpAny_getItem_list hl h0 hhi (by simpa using hx) h) hs
def Stop (P : Prop) : Prop := P
theorem ends_same {nx nx' : List (Addr × Obj)} {I : Addr} {oI : Obj} (hoff : ∀ p ∈ nx, p.1 ≠ I) (e : nx'.map (·.1) = nx.map (·.1)) : OwnOff [(I, oI)] (nx'.map (·.1)) := by
  intro p hp b hb
  rw [List.mem_singleton.mp hp]
  rw [e] at hb
  obtain ⟨q, hq, rfl⟩ := List.mem_map.mp hb
  exact (hoff q hq).symm
theorem Stop.of {P : Prop} (h : P) : Stop P := h
theorem toStop {P : Prop} (h : Stop P) : P := h
def nineRow (G : Int → Int → Int) (x y wide high : Int) (st : Int) (j : Nat) : List Int := (List.range j).map fun (b : Nat) => G (keptI (y + st) high) (keptI (x + ((b : Int) - 1)) wide)
def nineRows (G : Int → Int → Int) (x y wide high : Int) (i : Nat) : List Int := (List.range i).flatMap fun (a : Nat) => nineRow G x y wide high ((a : Int) - 1) 3
theorem nineRow_succ (G : Int → Int → Int) (x y wide high st : Int) (j : Nat) : nineRow G x y wide high st (j + 1) = nineRow G x y wide high st j ++ [G (keptI (y + st) high) (keptI (x + ((j : Int) - 1)) wide)] := by
  simp [nineRow, List.range_succ]
theorem nineRows_succ (G : Int → Int → Int) (x y wide high : Int) (i : Nat) : nineRows G x y wide high (i + 1) = nineRows G x y wide high i ++ nineRow G x y wide high ((i : Int) - 1) 3 := by
  simp [nineRows, List.range_succ]
theorem nineRow_len (G : Int → Int → Int) (x y wide high st : Int) (j : Nat) : (nineRow G x y wide high st j).length = j := by simp [nineRow]
theorem nineRows_len (G : Int → Int → Int) (x y wide high : Int) (i : Nat) : (nineRows G x y wide high i).length = 3 * i := by
  induction i with
  | zero => rfl
  | succ i ih => rw [nineRows_succ, List.length_append, ih, nineRow_len]; omega
theorem three {t0 t1 t2 : Tok} {i : Nat} {v : Value} (h : [Value.int (-1) t0, .int 0 t1, .int 1 t2][i]? = some v) : i < 3 ∧ ∃ t, v = .int ((i : Int) - 1) t := by
  match i, h with
  | 0, h => cases h; exact ⟨by omega, _, rfl⟩
  | 1, h => cases h; exact ⟨by omega, _, rfl⟩
  | 2, h => cases h; exact ⟨by omega, _, rfl⟩
section
variable {w : World} {mean : ExcName → Option Value} {mg mb : Str → Option Value} {dp un : Nat} {gd : Option (List Code)} {cn : Str} {cs : Scope} {a : Addr} {ccd : Value} {cl : List (Str × Addr)} {outer : List Env} {A₀ : Around} {base h₀ : Heap} {L : Addr} {m : Str → Option Value} {s : Shared} {Q E : Value → Shared → Prop}
local macro_rules | `(tactic| k_mem) => `(tactic| assumption)
local macro_rules | `(tactic| walk_at "exec For Name Tuple cons nil") => `(tactic| (k_here; (rename Fr _ _ _ _ => lF'); (with_unfolding_all refine' For_invVF lF' ?k1 ?k2 ?_; (case k1 | k2 => exact rfl); k_whole)))
local macro_rules | `(tactic| walk_at "pyIter ref") => `(tactic| ((with_reducible show wpAny _ _ (pyIter (Value.ref _)) (fun it s₂ => LoopAtV _ _ _ _ _ _ _ _ _ it s₂) _ _); refine toStop ?_))
local macro_rules | `(tactic| walk_at "call ref") => `(tactic| (k_here; (with_reducible show wpAny _ _ (call (Value.ref 28) _) _ _ _); k_dflt (refine' kept ?b ?f ?x ?n ?t ?k ?d ?u ?_; (case b | f | x | n | t => k_asm); (case k => first | exact rfl | assumption); (case d => ktr_room); (case u => ktr_units); k_whole); intro tr' h' tk' F' N'; (try k_sweep)))
local macro_rules | `(tactic| walk_at "call ref") => `(tactic| (k_here; (with_reducible show wpAny _ _ (call (Value.ref 148) _) _ _ _); (rename GridAt _ _ _ _ _ _ _ => GA9); k_dflt (refine' get1 ?b ?f ?x ?n (GridAt.mono GA9 ?s) ?y0 ?y1 ?x0 ?x1 ?y4 ?x4 ?t ?k ?d ?u ?_; (case b | f | x | n => k_asm); (case s => (intro p hp; (repeat refine List.mem_cons_of_mem _ ?_); exact hp)); (case y0 | x0 => exact keptI_lo); (case y1 => exact keptI_hi (by omega)); (case x1 => exact keptI_hi (by omega)); (case y4 | x4 => assumption); (case t => k_asm); (case k => first | exact rfl | assumption); (case d => ktr_room); (case u => ktr_units); k_whole); intro q' tr' rest' h' tk' F' N' hq'; (try k_sweep)))
local macro_rules | `(tactic| walk_at "subscriptTail") => `(tactic| (k_here; (with_reducible show wpAny _ _ (subscriptTail _ _ (Value.ref _) (Value.int _ _)) _ _ _); (with_unfolding_all refine' sub_il ?k1 ?k3 ?k4 ?k5 ?_ ?k6; (case k1 => assumption); (case k3 | k4 => decide); (case k5 => rfl); (case k6 => with_unfolding_all rfl); k_whole)))
local macro_rules | `(tactic| walk_at "call builtin:list.append") => `(tactic| (k_here; (with_reducible show wpAny _ _ (call (Value.builtin _) [Value.ref _, _]) _ _ _); k_dflt (refine' append_K ?k1 ?k2 ?k3 ?_ ?z; (case k1 | k2 => k_asm); (case k3 => k_upd); (case z => (rw [sizeLine_eq, List.size_toArray]; omega)); k_whole); intro h' F' N'; (try k_sweep)))
theorem nine {own : List (Addr × Obj)} {x y : Int} {tx ty tz ta td : Tok} {g : Addr} {wide high : Int} {ra : Int → Addr} {G : Int → Int → Int}
    (B : Below A₀ base outer h₀) (F : Fr h₀ L s.heap m) (X : (hd.heap_39 w.params).In h₀) (N : News h₀ L s.heap own) (GA : GridAt w.params own g wide high ra G)
    (hy0 : 0 < high) (hx0 : 0 < wide) (hy4 : high ≤ 4) (hx4 : wide ≤ 4)
    (T : Top hd.view_39 (looseW hd.view_39 []) mean mg mb h₀) (hk : cs.kind = .function) (hdp : dp + 2 < recursionLimit) (hu : un + 16 < cLine)
    (hret : ∀ (q : Addr) vs nq h' tk', Fr h₀ L h' m → News h₀ L h' ((q, listOf vs.toArray nq) :: own) → IntsAre vs (nineRows G x y wide high 3) → Q (.ref q) { s with heap := h', toks := tk' }) :
    wpAny (model PySem.Challenge.rw_xm0813_01.row.prog w) (ktrTop dp un gd cn cs L a ccd cl outer) (call (.ref 35) [.ref g, .int 0 tz, .int x tx, .int y ty, .int wide ta, .int high td]) Q E s := by
  revert X; k_fill; intro X
  obtain ⟨gdd, pl, p0, n1, n2, tm, more, n3, prs, np, ga, gb, _, _, _⟩ := GA.core
  refine wpAny_call ?_
  k_dflt cell_enter
  k_steps
  rename_i fo h8 l8 h7 D h9 F9 N9 l9
  have offO : OwnOff own [fo] := fun p hp b hb => by rw [List.mem_singleton.mp hb]; exact Nat.ne_of_lt (l8 p hp)
  refine Stop.of ?_
  with_unfolding_all refine tuple_inv ["turn"] (fun i nx => ∃ vs nq, nx = (fo, listOf vs.toArray nq) :: (D, _) :: own ∧ IntsAre vs (nineRows G x y wide high i)) rfl (.head _) rfl rfl F9 N9 (fun p hp => by rcases List.mem_cons.mp hp with rfl | hp; exact .tail _ (.head _); rcases List.mem_cons.mp hp with rfl | hp; exact .head _; exact .tail _ (.tail _ hp)) ⟨[], 0, rfl, .nil⟩ (fun i nx e => by obtain ⟨_, _, rfl, _⟩ := e; exact .tail _ (.head _)) ?turn ?done
  case turn =>
    intro i v u nx h tk I oI hv hoff e F N
    obtain ⟨vs, nq, rfl, hvs⟩ := e
    obtain ⟨hi, tt, rfl⟩ := three hv
    have h1 := neN (hoff _ (.head _))
    dsimp only at h1
    k_steps
    rename_i D2 h29 F29 N29 l29
    refine Stop.of ?_
    with_unfolding_all refine tuple_inv (news := (fo, listOf vs.toArray nq) :: (D2, _) :: (I, oI) :: (D, _) :: own) [] (fun j nx => ∃ vs nq, nx = (fo, listOf vs.toArray nq) :: (D2, _) :: (I, oI) :: (D, _) :: own ∧ IntsAre vs (nineRows G x y wide high i ++ nineRow G x y wide high ((i : Int) - 1) j)) rfl (.head _) rfl rfl F29 N29 (fun p hp => by
      rcases List.mem_cons.mp hp with rfl | hp
      · exact .tail _ (.tail _ (.head _))
      rcases List.mem_cons.mp hp with rfl | hp
      · exact .head _
      rcases List.mem_cons.mp hp with rfl | hp
      · exact .tail _ (.head _)
      exact .tail _ (.tail _ (.tail _ hp))) ⟨vs, nq, rfl, by simpa [nineRow] using hvs⟩ (fun i nx e => by obtain ⟨_, _, rfl, _⟩ := e; exact .tail _ (.head _)) ?turn2 ?done2
    case turn2 =>
      intro j v u2 nx h tk I2 oI2 hv hoff2 e F N
      obtain ⟨vs, nq, rfl, hvs⟩ := e
      obtain ⟨hj, tt2, rfl⟩ := three hv
      have h2 := neN (hoff2 _ (.head _))
      dsimp only at h2
      have hlen : vs.length < 100 := by rw [hvs.length, List.length_append, nineRows_len, nineRow_len]; omega
      k_steps
      rename Fr _ _ _ _ => F3
      rename News _ _ _ _ => N3
      rw [List.push_toArray] at N3
      refine InvEndG.intro (nx := (fo, _) :: (D2, _) :: (I, oI) :: (D, _) :: own) F3 N3 ⟨?_, _, _, rfl, ?_⟩ (by exact ends_same hoff2 rfl) (fun p hp => .tail _ hp) (fun p hp => by rw [List.mem_singleton.mp hp]; exact .head _)
      · intro z z1 z2
        simp [z1]
      · rw [nineRow_succ, ← List.append_assoc]
        exact hvs.append (.cons _ _ .nil)
    case done2 =>
      intro u nx h tk e F N
      obtain ⟨vs, nq, rfl, hvs⟩ := e
      k_steps
      refine InvEndG.intro (nx := (fo, _) :: (D, _) :: own) F N ⟨?_, vs, nq, rfl, ?_⟩ (by exact ends_same hoff rfl) (fun p hp => by
        rcases List.mem_cons.mp hp with rfl | hp
        · exact .head _
        · exact .tail _ (.tail _ (.tail _ hp))) (fun p hp => by rw [List.mem_singleton.mp hp]; exact .tail _ (.tail _ (.head _)))
      · intro z z1 z2
        have z3 : z ≠ Str.ofString "turn" := by
          rintro rfl
          exact absurd z2 (by decide)
        simp [z1, z3]
      · rw [nineRows_succ]
        exact hvs
  case done =>
    intro u nx h tk e F N
    obtain ⟨vs, nq, rfl, hvs⟩ := e
    k_steps
    rename News h₀ L _ _ => N3
    exact hret fo vs nq _ _ (by assumption) (fun p hp => by
        rcases List.mem_cons.mp hp with rfl | hp
        · exact N3 _ (.head _)
        · exact N3 _ (.tail _ (.tail _ hp))) hvs
end
end
section
abbrev ent (P : Params) (x : String) (n : Nat) (v : Value) : DictEntry := ⟨PyData.keyHash P (Str.ofString x), .str (Str.ofString x) n, v⟩
abbrev frameDict (P : Params) (n1 n2 n3 n4 n5 n6 : Nat) (v1 v2 : Value) (hh ww : Int) (th tw tn : Tok) (cl : Addr) : Obj :=
  dictOf [ent P "kind" n1 v1, ent P "precision" n2 v2, ent P "height" n3 (.int hh th), ent P "width" n4 (.int ww tw), ent P "components" n5 (.ref cl), ent P "n" n6 (.int 2 tn)] 6
abbrev compDict (P : Params) (n1 n2 n3 n4 : Nat) (v1 v4 : Value) (t2 t3 : Tok) : Obj :=
  dictOf [ent P "ident" n1 v1, ent P "across" n2 (.int 1 t2), ent P "down" n3 (.int 1 t3), ent P "quant" n4 v4] 4
def CompIs (P : Params) (own : List (Addr × Obj)) (v : Value) : Prop := ∃ (c d : Addr) (n1 n2 n3 n4 : Nat) (v1 v4 : Value) (t2 t3 : Tok), v = .ref c ∧ (c, instObj 59 d) ∈ own ∧ (d, compDict P n1 n2 n3 n4 v1 v4 t2 t3) ∈ own
section
variable {w : World} {mean : ExcName → Option Value} {mg mb : Str → Option Value} {dp un : Nat} {gd : Option (List Code)} {cn : Str} {cs : Scope} {a : Addr} {ccd : Value} {cl : List (Str × Addr)} {outer : List Env} {A₀ : Around} {base h₀ : Heap} {L : Addr} {m : Str → Option Value} {s : Shared} {Q E : Value → Shared → Prop}
theorem two_of {cvs : List Value} (hl : cvs.length = 1 ∨ cvs.length = 2) : (∃ x, cvs = [x]) ∨ ∃ x y, cvs = [x, y] := by
  match cvs, hl with
  | [x], _ => exact .inl ⟨x, rfl⟩
  | [x, y], _ => exact .inr ⟨x, y, rfl⟩
  | [], h => simp at h
  | _ :: _ :: _ :: _, h => simp at h
theorem parts0 {own : List (Addr × Obj)} {x : Int} {tx ty : Tok}
    (B : Below A₀ base outer h₀) (F : Fr h₀ L s.heap m) (X : (hd.heap_39 w.params).In h₀) (N : News h₀ L s.heap own)
    (T : Top hd.view_39 (looseW hd.view_39 []) mean mg mb h₀) (hk : cs.kind = .function) (hdp : dp + 1 < recursionLimit) (hu : un + 8 < cLine)
    (hret : ∀ (tr : Tok) h' tk', Fr h₀ L h' m → News h₀ L h' own → Q (.int x tr) { s with heap := h', toks := tk' }) :
    wpAny (model PySem.Challenge.rw_xm0813_01.row.prog w) (ktrTop dp un gd cn cs L a ccd cl outer) (call (.ref 42) [.int (2 * x) tx, .int 2 ty]) Q E s := by
  revert X; k_fill; intro X
  refine wpAny_call ?_
  k_dflt cell_enter
  k_steps
  have e : (2 * x + 2 - 1).fdiv 2 = x := by rw [Int.fdiv_eq_ediv_of_nonneg _ (by decide)]; omega
  rw [e]
  exact hret _ _ _ (by assumption) (by assumption)
local macro_rules | `(tactic| k_mem) => `(tactic| assumption)
local macro_rules | `(tactic| walk_at "CompEnd") => `(tactic| (refine LCg.CompEnd.intro (by assumption) (by assumption) _ (fun p hp => hp) (by assumption) (by lcg_src) ?_))
theorem most_across {own : List (Addr × Obj)} {fr fd cm : Addr} {n1 n2 n3 n4 n5 n6 nc : Nat} {v1 v2 : Value} {hh ww : Int} {th tw tn : Tok} {cvs : List Value}
    (B : Below A₀ base outer h₀) (F : Fr h₀ L s.heap m) (X : (hd.heap_39 w.params).In h₀) (N : News h₀ L s.heap own)
    (hfr : (fr, instObj 125 fd) ∈ own) (hfd : (fd, frameDict w.params n1 n2 n3 n4 n5 n6 v1 v2 hh ww th tw tn cm) ∈ own) (hcm : (cm, listOf cvs.toArray nc) ∈ own) (hcv : ∀ v ∈ cvs, CompIs w.params own v) (hl : cvs.length = 1 ∨ cvs.length = 2)
    (T : Top hd.view_39 (looseW hd.view_39 []) mean mg mb h₀) (hk : cs.kind = .function) (hdp : dp + 1 < recursionLimit) (hu : un + 8 < cLine)
    (hret : ∀ (tr : Tok) h' tk', Fr h₀ L h' m → News h₀ L h' own → Q (.int 1 tr) { s with heap := h', toks := tk' }) :
    wpAny (model PySem.Challenge.rw_xm0813_01.row.prog w) (ktrTop dp un gd cn cs L a ccd cl outer) (call (.ref 82) [.ref fr]) Q E s := by
  revert X; k_fill; intro X
  rcases two_of hl with ⟨x, rfl⟩ | ⟨x, y, rfl⟩
  · obtain ⟨c0, d0, _, _, _, _, _, _, _, _, rfl, hc0, hd0⟩ := hcv x (.head _)
    clear hcv hl
    refine wpAny_call ?_
    k_dflt cell_enter
    k_steps
    rename Int => M9
    rename News h₀ L _ _ => N9
    obtain rfl : M9 = 1 := by omega
    exact hret _ _ _ (by assumption) (fun p hp => N9 p (.tail _ hp))
  · obtain ⟨c0, d0, _, _, _, _, _, _, _, _, rfl, hc0, hd0⟩ := hcv x (.head _)
    obtain ⟨c1, d1, _, _, _, _, _, _, _, _, rfl, hc1, hd1⟩ := hcv y (.tail _ (.head _))
    clear hcv hl
    refine wpAny_call ?_
    k_dflt cell_enter
    k_steps
    rename Int => M9
    rename News h₀ L _ _ => N9
    obtain rfl : M9 = 1 := by omega
    exact hret _ _ _ (by assumption) (fun p hp => N9 p (.tail _ hp))
theorem most_down {own : List (Addr × Obj)} {fr fd cm : Addr} {n1 n2 n3 n4 n5 n6 nc : Nat} {v1 v2 : Value} {hh ww : Int} {th tw tn : Tok} {cvs : List Value}
    (B : Below A₀ base outer h₀) (F : Fr h₀ L s.heap m) (X : (hd.heap_39 w.params).In h₀) (N : News h₀ L s.heap own)
    (hfr : (fr, instObj 125 fd) ∈ own) (hfd : (fd, frameDict w.params n1 n2 n3 n4 n5 n6 v1 v2 hh ww th tw tn cm) ∈ own) (hcm : (cm, listOf cvs.toArray nc) ∈ own) (hcv : ∀ v ∈ cvs, CompIs w.params own v) (hl : cvs.length = 1 ∨ cvs.length = 2)
    (T : Top hd.view_39 (looseW hd.view_39 []) mean mg mb h₀) (hk : cs.kind = .function) (hdp : dp + 1 < recursionLimit) (hu : un + 8 < cLine)
    (hret : ∀ (tr : Tok) h' tk', Fr h₀ L h' m → News h₀ L h' own → Q (.int 1 tr) { s with heap := h', toks := tk' }) :
    wpAny (model PySem.Challenge.rw_xm0813_01.row.prog w) (ktrTop dp un gd cn cs L a ccd cl outer) (call (.ref 87) [.ref fr]) Q E s := by
  revert X; k_fill; intro X
  rcases two_of hl with ⟨x, rfl⟩ | ⟨x, y, rfl⟩
  · obtain ⟨c0, d0, _, _, _, _, _, _, _, _, rfl, hc0, hd0⟩ := hcv x (.head _)
    clear hcv hl
    refine wpAny_call ?_
    k_dflt cell_enter
    k_steps
    rename Int => M9
    rename News h₀ L _ _ => N9
    obtain rfl : M9 = 1 := by omega
    exact hret _ _ _ (by assumption) (fun p hp => N9 p (.tail _ hp))
  · obtain ⟨c0, d0, _, _, _, _, _, _, _, _, rfl, hc0, hd0⟩ := hcv x (.head _)
    obtain ⟨c1, d1, _, _, _, _, _, _, _, _, rfl, hc1, hd1⟩ := hcv y (.tail _ (.head _))
    clear hcv hl
    refine wpAny_call ?_
    k_dflt cell_enter
    k_steps
    rename Int => M9
    rename News h₀ L _ _ => N9
    obtain rfl : M9 = 1 := by omega
    exact hret _ _ _ (by assumption) (fun p hp => N9 p (.tail _ hp))
local macro_rules | `(tactic| walk_at "call ref") => `(tactic| (k_here; (with_reducible show wpAny _ _ (call (Value.ref 82) _) _ _ _); k_dflt (refine' most_across ?b ?f ?x ?n ?m1 ?m2 ?m3 ?m4 ?m5 ?t ?k ?d ?u ?_; (case b | f | x | n => k_asm); (case m1 | m2 | m3 | m4 | m5 => assumption); (case t => k_asm); (case k => first | exact rfl | assumption); (case d => ktr_room); (case u => ktr_units); k_whole); intro tr' h' tk' F' N'; (try k_sweep)))
local macro_rules | `(tactic| walk_at "call ref") => `(tactic| (k_here; (with_reducible show wpAny _ _ (call (Value.ref 87) _) _ _ _); k_dflt (refine' most_down ?b ?f ?x ?n ?m1 ?m2 ?m3 ?m4 ?m5 ?t ?k ?d ?u ?_; (case b | f | x | n => k_asm); (case m1 | m2 | m3 | m4 | m5 => assumption); (case t => k_asm); (case k => first | exact rfl | assumption); (case d => ktr_room); (case u => ktr_units); k_whole); intro tr' h' tk' F' N'; (try k_sweep)))
local macro_rules | `(tactic| walk_at "call ref") => `(tactic| (k_here; (with_reducible show wpAny _ _ (call (Value.ref 42) _) _ _ _); k_dflt (refine' parts0 ?b ?f ?x ?n ?t ?k ?d ?u ?_; (case b | f | x | n | t => k_asm); (case k => first | exact rfl | assumption); (case d => ktr_room); (case u => ktr_units); k_whole); intro tr' h' tk' F' N'; (try k_sweep)))
theorem mcus_across {own : List (Addr × Obj)} {fr fd cm : Addr} {n1 n2 n3 n4 n5 n6 nc : Nat} {v1 v2 : Value} {hh ww : Int} {th tw tn : Tok} {cvs : List Value}
    (B : Below A₀ base outer h₀) (F : Fr h₀ L s.heap m) (X : (hd.heap_39 w.params).In h₀) (N : News h₀ L s.heap own)
    (hfr : (fr, instObj 125 fd) ∈ own) (hfd : (fd, frameDict w.params n1 n2 n3 n4 n5 n6 v1 v2 (2 * hh) (2 * ww) th tw tn cm) ∈ own) (hcm : (cm, listOf cvs.toArray nc) ∈ own) (hcv : ∀ v ∈ cvs, CompIs w.params own v) (hl : cvs.length = 1 ∨ cvs.length = 2)
    (T : Top hd.view_39 (looseW hd.view_39 []) mean mg mb h₀) (hk : cs.kind = .function) (hdp : dp + 2 < recursionLimit) (hu : un + 16 < cLine)
    (hret : ∀ (tr : Tok) h' tk', Fr h₀ L h' m → News h₀ L h' own → Q (.int ww tr) { s with heap := h', toks := tk' }) :
    wpAny (model PySem.Challenge.rw_xm0813_01.row.prog w) (ktrTop dp un gd cn cs L a ccd cl outer) (call (.ref 94) [.ref fr]) Q E s := by
  revert X; k_fill; intro X
  refine wpAny_call ?_
  k_dflt cell_enter
  k_steps
  exact hret _ _ _ (by assumption) (by assumption)
theorem mcus_down {own : List (Addr × Obj)} {fr fd cm : Addr} {n1 n2 n3 n4 n5 n6 nc : Nat} {v1 v2 : Value} {hh ww : Int} {th tw tn : Tok} {cvs : List Value}
    (B : Below A₀ base outer h₀) (F : Fr h₀ L s.heap m) (X : (hd.heap_39 w.params).In h₀) (N : News h₀ L s.heap own)
    (hfr : (fr, instObj 125 fd) ∈ own) (hfd : (fd, frameDict w.params n1 n2 n3 n4 n5 n6 v1 v2 (2 * hh) (2 * ww) th tw tn cm) ∈ own) (hcm : (cm, listOf cvs.toArray nc) ∈ own) (hcv : ∀ v ∈ cvs, CompIs w.params own v) (hl : cvs.length = 1 ∨ cvs.length = 2)
    (T : Top hd.view_39 (looseW hd.view_39 []) mean mg mb h₀) (hk : cs.kind = .function) (hdp : dp + 2 < recursionLimit) (hu : un + 16 < cLine)
    (hret : ∀ (tr : Tok) h' tk', Fr h₀ L h' m → News h₀ L h' own → Q (.int hh tr) { s with heap := h', toks := tk' }) :
    wpAny (model PySem.Challenge.rw_xm0813_01.row.prog w) (ktrTop dp un gd cn cs L a ccd cl outer) (call (.ref 101) [.ref fr]) Q E s := by
  revert X; k_fill; intro X
  refine wpAny_call ?_
  k_dflt cell_enter
  k_steps
  exact hret _ _ _ (by assumption) (by assumption)
end
end
section
abbrev tupOf (vs : List Value) : Obj := { cls := .type "tuple", data := .seq vs.toArray }
section
variable {w : World} {mean : ExcName → Option Value} {mg mb : Str → Option Value} {dp un : Nat} {gd : Option (List Code)} {cn : Str} {cs : Scope} {a : Addr} {ccd : Value} {cl : List (Str × Addr)} {outer : List Env} {A₀ : Around} {base h₀ : Heap} {L : Addr} {m : Str → Option Value} {s : Shared} {Q E : Value → Shared → Prop}
local macro_rules | `(tactic| k_mem) => `(tactic| assumption)
local macro_rules | `(tactic| walk_at "subscriptTail") => `(tactic| (k_here; (with_reducible show wpAny _ _ (subscriptTail _ _ (Value.ref _) (Value.int _ _)) _ _ _); (with_unfolding_all refine' sub_at ?k1 ?k2 ?k3 ?k4 ?k5 ?_ ?k6; (case k1 => k_asm); (case k2 => k_mem); (case k3 => first | assumption | decide); (case k4 => omega); (case k5 => first | assumption | rfl); (case k6 => with_unfolding_all rfl); k_whole)))
local macro_rules | `(tactic| walk_at "call ref") => `(tactic| (k_here; (with_reducible show wpAny _ _ (call (Value.ref 94) _) _ _ _); k_dflt (refine' mcus_across ?b ?f ?x ?n ?m1 ?m2 ?m3 ?m4 ?m5 ?t ?k ?d ?u ?_; (case b | f | x | n => k_asm); (case m1 | m2 | m3 | m4 | m5 => assumption); (case t => k_asm); (case k => first | exact rfl | assumption); (case d => ktr_room); (case u => ktr_units); k_whole); intro tr' h' tk' F' N'; (try k_sweep)))
local macro_rules | `(tactic| walk_at "call ref") => `(tactic| (k_here; (with_reducible show wpAny _ _ (call (Value.ref 101) _) _ _ _); k_dflt (refine' mcus_down ?b ?f ?x ?n ?m1 ?m2 ?m3 ?m4 ?m5 ?t ?k ?d ?u ?_; (case b | f | x | n => k_asm); (case m1 | m2 | m3 | m4 | m5 => assumption); (case t => k_asm); (case k => first | exact rfl | assumption); (case d => ktr_room); (case u => ktr_units); k_whole); intro tr' h' tk' F' N'; (try k_sweep)))
theorem padded {own : List (Addr × Obj)} {fr fd cm : Addr} {n1 n2 n3 n4 n5 n6 nc : Nat} {v1 v2 : Value} {hh ww pl : Int} {th tw tn tp : Tok} {cvs : List Value}
    (B : Below A₀ base outer h₀) (F : Fr h₀ L s.heap m) (X : (hd.heap_39 w.params).In h₀) (N : News h₀ L s.heap own)
    (hfr : (fr, instObj 125 fd) ∈ own) (hfd : (fd, frameDict w.params n1 n2 n3 n4 n5 n6 v1 v2 (2 * hh) (2 * ww) th tw tn cm) ∈ own) (hcm : (cm, listOf cvs.toArray nc) ∈ own) (hcv : ∀ v ∈ cvs, CompIs w.params own v) (hl : cvs.length = 1 ∨ cvs.length = 2)
    (hp0 : 0 ≤ pl) (hp1 : pl < cvs.length)
    (T : Top hd.view_39 (looseW hd.view_39 []) mean mg mb h₀) (hk : cs.kind = .function) (hdp : dp + 3 < recursionLimit) (hu : un + 24 < cLine)
    (hret : ∀ (q : Addr) (t1 t2 : Tok) h' tk', Fr h₀ L h' m → News h₀ L h' ((q, tupOf [Value.int ww t1, .int hh t2]) :: own) → (∀ p ∈ own, p.1 < q) → Q (.ref q) { s with heap := h', toks := tk' }) :
    wpAny (model PySem.Challenge.rw_xm0813_01.row.prog w) (ktrTop dp un gd cn cs L a ccd cl outer) (call (.ref 122) [.ref fr, .int pl tp]) Q E s := by
  revert X; k_fill; intro X
  have hlt : pl.toNat < cvs.length := by omega
  have hat : cvs[pl.toNat]? = some cvs[pl.toNat] := List.getElem?_eq_getElem hlt
  obtain ⟨c0, d0, _, _, _, _, _, _, _, _, he, hc0, hd0⟩ := hcv _ (List.getElem_mem hlt)
  rw [he] at hat
  clear he
  refine wpAny_call ?_
  k_dflt cell_enter
  k_steps
  rename News h₀ L _ _ => N9
  rename ∀ p ∈ own, _ => l9
  simp only [Int.mul_one] at N9
  exact hret _ _ _ _ _ (by assumption) N9 l9
end
end
section
section
variable {prog : Program} {w : World} {A : Around} {s : Shared} {env : Env} {h₀ : Heap} {L : Addr} {m : Str → Option Value} {x : Str} {elt : PySem.Expr} {scope : Scope} {cl : List (Str × Addr)}
theorem comp_inv {S : List (Addr × Obj) → Prop} {P : Nat → Value → Prop} {Fin : List Value → List (Addr × Obj) → Prop} {n : Nat} {news : List (Addr × Obj)} (Inv : Nat → List Value → List (Addr × Obj) → Prop)
    (h0 : Inv 0 [] news)
    (step : ∀ i ys nx v I oI C oC D m₂ h tk (E' : Value → Shared → Prop), i < n → Inv i ys nx → P i v → LCg.NsObj oC m₂ → m₂ x = some v → Fr h₀ L h m → News h₀ L h ((I, oI) :: (C, oC) :: (D, LCg.lst ys) :: nx) → LCg.Off3 I C D nx → ((@Ne Nat I C) ∧ (@Ne Nat I D) ∧ (@Ne Nat C D)) →
      wpAny (model prog w) A (eval elt (compEnvC scope cl C env)) (LCg.CompEnd h₀ L m { s with heap := h, toks := tk } I oI C oC D (LCg.lst ys) S (fun y nx' => Inv (i + 1) (ys ++ [y]) nx')) E' { s with heap := h, toks := tk })
    (fin : ∀ ys nx, Inv n ys nx → Fin ys nx) :
    LCg.CompRest prog w A h₀ L m env elt x scope cl s S P Fin n 0 [] news := by
  have all : ∀ k i ys nx, i + k = n → Inv i ys nx → LCg.CompRest prog w A h₀ L m env elt x scope cl s S P Fin k i ys nx := by
    intro k
    induction k with
    | zero =>
      intro i ys nx e hI
      have e' : i = n := by omega
      subst e'
      exact LCg.CompRest.zero (fin ys nx hI)
    | succ k ih =>
      intro i ys nx e hI
      refine LCg.CompRest.succ ?_
      intro v I oI C oC D m₂ h tk E' hP hC hx F N off ne
      refine wpAny_mono (step i ys nx v I oI C oC D m₂ h tk E' (by omega) hI hP hC hx F N off ne) (fun y s₂ p => ?_) fun _ _ e => e
      obtain ⟨h', tk', nx', e1, F', N', off', hS, r⟩ := p
      exact ⟨h', tk', nx', e1, F', N', off', hS, ih (i + 1) (ys ++ [y]) nx' (by omega) r⟩
  exact all n 0 [] news (by omega) h0
end
end
section
theorem lt_of_all {d : Addr} : ∀ {l : List (Addr × Obj)}, AllLt d l → ∀ p ∈ l, p.1 < d
  | [], _, _, h => nomatch h
  | _ :: _, x, p, h => by
    rcases List.mem_cons.mp h with rfl | h
    · exact x.1
    · exact lt_of_all x.2 p h
theorem comps_mono {P : Params} {own own' : List (Addr × Obj)} {cvs : List Value} (h : ∀ v ∈ cvs, CompIs P own v) (hs : ∀ p ∈ own, p ∈ own') : ∀ v ∈ cvs, CompIs P own' v := fun v hv => by
  obtain ⟨c, d, n1, n2, n3, n4, v1, v4, t2, t3, e, a, b⟩ := h v hv
  exact ⟨c, d, n1, n2, n3, n4, v1, v4, t2, t3, e, hs _ a, hs _ b⟩
theorem off1_mem {D : Addr} : ∀ {l : List (Addr × Obj)}, LCg.Off1 D l → ∀ p ∈ l, p.1 ≠ D
  | [], _, _, h => nomatch h
  | _ :: _, x, p, h => by
    rcases List.mem_cons.mp h with rfl | h
    · exact x.1
    · exact off1_mem x.2 p h
theorem led_shuffle {h₀ h : Heap} {L : Addr} {a b c d e f q : Addr × Obj} {rl tl : List (Addr × Obj)} (N : News h₀ L h (q :: (rl ++ (a :: b :: c :: d :: e :: f :: tl)))) : News h₀ L h (c :: d :: e :: f :: b :: (q :: (rl ++ tl))) := by
  intro p hp
  refine N p ?_
  simp only [List.mem_cons, List.mem_append] at hp ⊢
  rcases hp with h | h | h | h | h | h | h | h <;> simp [h]
theorem off_shuffle {a b c d e f q : Addr × Obj} {rl tl : List (Addr × Obj)} (o9 : ∀ p ∈ rl ++ (a :: b :: c :: d :: e :: f :: tl), p.1 ≠ q.1) (hr1 : ∀ p ∈ rl, ∀ r ∈ a :: b :: c :: d :: e :: f :: tl, r.1 < p.1) (off2 : OwnOff tl [b.1, c.1, d.1, e.1, f.1]) :
    OwnOff (q :: (rl ++ tl)) [c.1, d.1, e.1, f.1, b.1] := by
  have key : ∀ x ∈ [c.1, d.1, e.1, f.1, b.1], ∃ r ∈ a :: b :: c :: d :: e :: f :: tl, r.1 = x := by
    intro x hx
    simp only [List.mem_cons, List.not_mem_nil, or_false] at hx
    rcases hx with rfl | rfl | rfl | rfl | rfl
    · exact ⟨c, by simp, rfl⟩
    · exact ⟨d, by simp, rfl⟩
    · exact ⟨e, by simp, rfl⟩
    · exact ⟨f, by simp, rfl⟩
    · exact ⟨b, by simp, rfl⟩
  intro p hp x hx
  obtain ⟨r, hr, rfl⟩ := key x hx
  rcases List.mem_cons.mp hp with rfl | hp
  · exact (o9 r (List.mem_append_right _ hr)).symm
  rcases List.mem_append.mp hp with hp | hp
  · exact (Nat.ne_of_lt (hr1 p hp r hr)).symm
  · refine off2 p hp _ ?_
    simp only [List.mem_cons, List.not_mem_nil, or_false] at hx ⊢
    rcases hx with h | h | h | h | h <;> simp [h]
theorem rl_off {a b c d e f : Addr × Obj} {rl gl own : List (Addr × Obj)} {D : Addr} {oD : Obj} (o9 : ∀ p ∈ rl ++ (a :: b :: c :: d :: e :: f :: (gl ++ own)), p.1 ≠ D) (hr1 : ∀ p ∈ rl, ∀ r ∈ a :: b :: c :: d :: e :: f :: (gl ++ own), r.1 < p.1) :
    OwnOff ((D, oD) :: rl) (c.1 :: d.1 :: e.1 :: f.1 :: own.map (·.1)) := by
  have key : ∀ x ∈ c.1 :: d.1 :: e.1 :: f.1 :: own.map (·.1), ∃ r ∈ a :: b :: c :: d :: e :: f :: (gl ++ own), r.1 = x := by
    intro x hx
    simp only [List.mem_cons, List.mem_map] at hx
    rcases hx with rfl | rfl | rfl | rfl | ⟨r, hr, rfl⟩
    · exact ⟨c, by simp, rfl⟩
    · exact ⟨d, by simp, rfl⟩
    · exact ⟨e, by simp, rfl⟩
    · exact ⟨f, by simp, rfl⟩
    · exact ⟨r, by simp [hr], rfl⟩
  intro p hp x hx
  obtain ⟨r, hr, rfl⟩ := key x hx
  rcases List.mem_cons.mp hp with rfl | hp
  · exact (o9 r (List.mem_append_right _ hr)).symm
  · exact (Nat.ne_of_lt (hr1 p hp r hr)).symm
theorem flat_rep (n : Nat) : (List.replicate n [Value.none]).flatten = List.replicate n Value.none := by
  induction n with
  | zero => rfl
  | succ n ih => rw [List.replicate_succ, List.flatten_cons, ih]; rfl
theorem len_led {prog : Program} {w : World} {A : Around} {E : Value → Shared → Prop} {s : Shared} {h₀ : Heap} {L l : Addr} {news : List (Addr × Obj)} {vs : List Value} {n : Nat} {Q : Value → Shared → Prop} (N : News h₀ L s.heap news) (hm : (l, listOf vs.toArray n) ∈ news) (hfit : vs.length < 2 ^ 62)
    (h : Q (.int (vs.length : Int) (s.toks + 1)) { s with toks := s.toks + 1 + 1 }) : wpAny (model prog w) A (call (.builtin "len") [.ref l]) Q E s :=
  Calls.call_function_entry kind_len plain_len entry_len (args_len1 _) (wpAny_len_body_list (led_list N hm) (by rw [List.size_toArray]; omega) (by rw [List.size_toArray]; exact h))
section
variable {w : World} {mean : ExcName → Option Value} {mg mb : Str → Option Value} {dp un : Nat} {gd : Option (List Code)} {cn : Str} {cs : Scope} {a : Addr} {ccd : Value} {cl : List (Str × Addr)} {outer : List Env} {A₀ : Around} {base h₀ : Heap} {L : Addr} {m : Str → Option Value} {s : Shared} {Q E : Value → Shared → Prop}
local macro_rules | `(tactic| k_mem) => `(tactic| first | assumption | exact List.mem_append_right _ (by assumption))
local macro_rules | `(tactic| walk_at "exec For Name Call cons nil") => `(tactic| (k_here; (rename Fr _ _ _ _ => lF'); (with_unfolding_all refine' For_invVF lF' ?k1 ?k2 ?_; (case k1 | k2 => exact rfl); k_whole)))
local macro_rules | `(tactic| walk_at "pyIter ref") => `(tactic| ((with_reducible show wpAny _ _ (pyIter (Value.ref _)) (fun it s₂ => LoopAtV _ _ _ _ _ _ _ _ _ it s₂) _ _); refine toStop ?_))
local macro_rules | `(tactic| walk_at "CompSrc") => `(tactic| ((with_reducible show LCg.CompSrc _ _ _ _ _ _ _ (Expr.BinOp (Expr.List _ _) _ _ _) _ _ _ _ _ _); refine toStop ?_))
local macro_rules | `(tactic| walk_at "call builtin:len") => `(tactic| (k_here; (with_reducible show wpAny _ _ (call (Value.builtin "len") [Value.ref _]) _ _ _); k_dflt (refine' len_led ?k1 ?k2 ?k3 ?_; (case k1 => k_asm); (case k2 => k_mem); (case k3 => omega); k_whole)))
local macro_rules | `(tactic| walk_at "binaryOp Mult ref int") => `(tactic| (k_here; (with_reducible show wpAny _ _ (binaryOp Operator.Mult (Value.ref _) (Value.int _ _)) _ _ _); k_dflt (refine' KMa.mul ?F ?N (led_list (vs := [Value.none]) ?N2 ?m) ?lo ?hi ?z (flat_rep _) ?_; (case F | N | N2 => k_asm); (case m => k_mem); (case lo | hi => omega); (case z => (simp only [List.length_cons, List.length_nil]; omega)); k_whole); intro D' h' F' N' l2; (try k_sweep)))
local macro_rules | `(tactic| walk_at "call type:range") => `(tactic| (k_here; (with_reducible show wpAny _ _ (call (Value.type "range") [Value.int _ _]) _ _ _); k_dflt (refine' range1_rows ?f ?n ?_; (case f | n => k_asm); k_whole); intro h' tk' t1' u1' v1' rg' F' N' kp'; (try k_sweep)))
local macro_rules | `(tactic| walk_at "call ref") => `(tactic| (k_here; (with_reducible show wpAny _ _ (call (Value.ref 122) _) _ _ _); k_dflt (refine' padded ?b ?f ?x ?n ?m1 ?m2 ?m3 ?m4 ?m5 ?p0 ?p1 ?t ?k ?d ?u ?_; (case b | f | x | n => k_asm); (case m1 | m2 | m3 => k_mem); (case m4 => exact comps_mono (by assumption) (by intro p hp; (repeat refine List.mem_cons_of_mem _ ?_); first | exact hp | exact List.mem_append_right _ hp)); (case m5 => assumption); (case p0 | p1 => omega); (case t => k_asm); (case k => first | exact rfl | assumption); (case d => ktr_room); (case u => first | ktr_units | ((simp only [units_under_make, units_in1, units_deeper]); (try dsimp only [ktrTop]); omega)); k_whole); intro q' t1' t2' h' tk' F' N' l1'; (try k_lt l1'); (try k_sweep)))
def PlaneAt (own : List (Addr × Obj)) (p0 : Addr) (wide high : Int) (ra : Int → Addr) : Prop :=
  ∃ (prs : List Value) (np : Nat), (p0, listOf prs.toArray np) ∈ own ∧ (∀ y, 0 ≤ y → y < high → prs[y.toNat]? = some (.ref (ra y)) ∧ p0 ≠ ra y ∧ ∃ nr, (ra y, listOf (List.replicate wide.toNat Value.none).toArray nr) ∈ own) ∧
    ∀ y y', 0 ≤ y → y < high → 0 ≤ y' → y' < high → ra y = ra y' → y = y'
def PlanesR (l c g gdd : Addr) (gdo : Obj) (old : List (Addr × Obj)) (wide high : Int) (i : Nat) (nx : List (Addr × Obj)) : Prop :=
  ∃ (pvs : List Value) (np : Nat) (oc : Obj) (vv : Option Value) (gl : List (Addr × Obj)), nx = (l, listOf pvs.toArray np) :: (c, oc) :: (g, instObj 165 gdd) :: (gdd, gdo) :: (gl ++ old) ∧ pvs.length = i ∧ oc.data = .cell vv ∧ OwnOff gl (l :: c :: g :: gdd :: old.map (·.1)) ∧
    (0 < i → ∃ p0 more ra, pvs = .ref p0 :: more ∧ PlaneAt gl p0 wide high ra)
theorem PlanesR.zero {l c g gdd : Addr} {gdo : Obj} {old : List (Addr × Obj)} {wide high : Int} {oc : Obj} {vv : Option Value} (hd : oc.data = .cell vv) : PlanesR l c g gdd gdo old wide high 0 ((l, listOf #[] 0) :: (c, oc) :: (g, instObj 165 gdd) :: (gdd, gdo) :: old) :=
  ⟨[], 0, oc, vv, [], rfl, rfl, hd, (fun _ hp => nomatch hp), fun h => absurd h (Nat.lt_irrefl _)⟩
def RowsInv (old : List (Addr × Obj)) (wide : Int) (i : Nat) (ys : List Value) (nx : List (Addr × Obj)) : Prop :=
  ∃ rl, nx = rl ++ old ∧ ys.length = i ∧ (∀ p ∈ rl, ∀ q ∈ old, q.1 < p.1) ∧ (∀ y, y < i → ∃ r nr, ys[y]? = some (.ref r) ∧ (r, listOf (List.replicate wide.toNat Value.none).toArray nr) ∈ rl) ∧
    ∀ y y' r, y < i → y' < i → ys[y]? = some (.ref r) → ys[y']? = some (.ref r) → y = y'
theorem RowsInv.zero {old : List (Addr × Obj)} {wide : Int} : RowsInv old wide 0 [] old := ⟨[], rfl, rfl, (fun _ h => nomatch h), (fun _ h => absurd h (Nat.not_lt_zero _)), fun _ _ _ h => absurd h (Nat.not_lt_zero _)⟩
theorem RowsInv.next {old nx : List (Addr × Obj)} {wide : Int} {i : Nat} {ys : List Value} {r : Addr} {nr : Nat} (h : RowsInv old wide i ys nx) (hr : ∀ p ∈ nx, p.1 < r) : RowsInv old wide (i + 1) (ys ++ [.ref r]) ((r, listOf (List.replicate wide.toNat Value.none).toArray nr) :: nx) := by
  obtain ⟨rl, rfl, hl, h1, h2, h3⟩ := h
  refine ⟨(r, _) :: rl, rfl, by simp [hl], ?_, ?_, ?_⟩
  · intro p hp q hq
    rcases List.mem_cons.mp hp with rfl | hp
    · exact hr q (List.mem_append_right _ hq)
    · exact h1 p hp q hq
  · intro y hy
    by_cases hyi : y < i
    · obtain ⟨r', nr', a, b⟩ := h2 y hyi
      exact ⟨r', nr', by rw [List.getElem?_append_left (by omega)]; exact a, .tail _ b⟩
    · have e : y = i := by omega
      subst e
      exact ⟨r, nr, by rw [List.getElem?_append_right (by omega)]; simp [hl], .head _⟩
  · have key : ∀ y, y < i + 1 → ∀ r', (ys ++ [Value.ref r])[y]? = some (.ref r') → (y < i ∧ ys[y]? = some (.ref r') ∧ r' < r) ∨ (y = i ∧ r' = r) := by
      intro y hy r' e
      by_cases hyi : y < i
      · rw [List.getElem?_append_left (by omega)] at e
        obtain ⟨r2, nr2, a, b⟩ := h2 y hyi
        rw [e] at a
        cases a
        exact .inl ⟨hyi, e, hr _ (List.mem_append_left _ b)⟩
      · have e' : y = i := by omega
        subst e'
        rw [List.getElem?_append_right (by omega)] at e
        simp [hl] at e
        exact .inr ⟨rfl, e.symm⟩
    intro y y' r' hy hy' e e'
    rcases key y hy r' e with ⟨a1, a2, a3⟩ | ⟨a1, a2⟩ <;> rcases key y' hy' r' e' with ⟨b1, b2, b3⟩ | ⟨b1, b2⟩
    · exact h3 y y' r' a1 b1 a2 b2
    · exact absurd a3 (by rw [b2]; exact Nat.lt_irrefl _)
    · exact absurd b3 (by rw [a2]; exact Nat.lt_irrefl _)
    · rw [a1, b1]
def raOf (ys : List Value) (y : Int) : Addr := match ys[y.toNat]? with
  | some (.ref r) => r
  | _ => 0
theorem PlaneAt.mono {own own' : List (Addr × Obj)} {p0 : Addr} {wide high : Int} {ra : Int → Addr} (h : PlaneAt own p0 wide high ra) (hs : ∀ p ∈ own, p ∈ own') : PlaneAt own' p0 wide high ra := by
  obtain ⟨prs, np, a, b, c⟩ := h
  refine ⟨prs, np, hs _ a, fun y h0 h1 => ?_, c⟩
  obtain ⟨d, e, nr, f⟩ := b y h0 h1
  exact ⟨d, e, nr, hs _ f⟩
theorem PlaneAt.new {own rl : List (Addr × Obj)} {D : Addr} {wide high : Int} {ys : List Value} (hm : (D, listOf ys.toArray ys.length) ∈ own) (hrl : ∀ p ∈ rl, p ∈ own) (hD : ∀ p ∈ rl, p.1 ≠ D)
    (hr2 : ∀ y, y < high.toNat → ∃ r nr, ys[y]? = some (.ref r) ∧ (r, listOf (List.replicate wide.toNat Value.none).toArray nr) ∈ rl)
    (hr3 : ∀ y y' r, y < high.toNat → y' < high.toNat → ys[y]? = some (.ref r) → ys[y']? = some (.ref r) → y = y') : PlaneAt own D wide high (raOf ys) := by
  have key : ∀ y, 0 ≤ y → y < high → ∃ nr, ys[y.toNat]? = some (.ref (raOf ys y)) ∧ (raOf ys y, listOf (List.replicate wide.toNat Value.none).toArray nr) ∈ rl := by
    intro y h0 h1
    obtain ⟨r, nr, a, b⟩ := hr2 y.toNat (by omega)
    have e : raOf ys y = r := by unfold raOf; rw [a]
    rw [e]
    exact ⟨nr, a, b⟩
  refine ⟨ys, ys.length, hm, fun y h0 h1 => ?_, fun y y' h0 h1 h0' h1' e => ?_⟩
  · obtain ⟨nr, a, b⟩ := key y h0 h1
    exact ⟨a, (hD _ b).symm, nr, hrl _ b⟩
  · obtain ⟨_, a, _⟩ := key y h0 h1
    obtain ⟨_, a', _⟩ := key y' h0' h1'
    rw [e] at a
    have := hr3 y.toNat y'.toNat _ (by omega) (by omega) a a'
    omega
theorem PlanesR.next {l c g gdd D : Addr} {gdo oc : Obj} {old gl rl : List (Addr × Obj)} {wide high : Int} {i np' : Nat} {pvs ys : List Value} {vv : Option Value} (hpl : pvs.length = i) (hoc : oc.data = .cell vv)
    (hgl : OwnOff gl (l :: c :: g :: gdd :: old.map (·.1))) (hrl : OwnOff ((D, LCg.lst ys) :: rl) (l :: c :: g :: gdd :: old.map (·.1))) (hD : ∀ p ∈ rl, p.1 ≠ D)
    (hr2 : ∀ y, y < high.toNat → ∃ r nr, ys[y]? = some (.ref r) ∧ (r, listOf (List.replicate wide.toNat Value.none).toArray nr) ∈ rl)
    (hr3 : ∀ y y' r, y < high.toNat → y' < high.toNat → ys[y]? = some (.ref r) → ys[y']? = some (.ref r) → y = y')
    (hpos : 0 < i → ∃ p0 more ra, pvs = .ref p0 :: more ∧ PlaneAt gl p0 wide high ra) :
    PlanesR l c g gdd gdo old wide high (i + 1) ((l, listOf (pvs ++ [Value.ref D]).toArray np') :: (c, oc) :: (g, instObj 165 gdd) :: (gdd, gdo) :: (((D, LCg.lst ys) :: (rl ++ gl)) ++ old)) := by
  refine ⟨_, np', oc, vv, (D, LCg.lst ys) :: (rl ++ gl), rfl, by simp [hpl], hoc, ?_, fun _ => ?_⟩
  · intro p hp b hb
    rcases List.mem_cons.mp hp with rfl | hp
    · exact hrl _ (.head _) b hb
    rcases List.mem_append.mp hp with hp | hp
    · exact hrl _ (.tail _ hp) b hb
    · exact hgl p hp b hb
  · by_cases hi : 0 < i
    · obtain ⟨p0, more, ra, rfl, h⟩ := hpos hi
      exact ⟨p0, more ++ [.ref D], ra, rfl, h.mono fun p hp => .tail _ (List.mem_append_right _ hp)⟩
    · have e : pvs = [] := List.eq_nil_of_length_eq_zero (by omega)
      subst e
      exact ⟨D, [], raOf ys, rfl, PlaneAt.new (rl := rl) (.head _) (fun p hp => .tail _ (List.mem_append_left _ hp)) hD hr2 hr3⟩
theorem PlanesR.grid {P : Params} {l c g gdd : Addr} {n1 n2 : Nat} {tm : Tok} {old nx : List (Addr × Obj)} {wide high : Int} {i : Nat} (h : PlanesR l c g gdd (gridDict P n1 n2 tm l) old wide high i nx) (hi : 0 < i) (hw : 0 ≤ wide) (hold : ∀ p ∈ old, p.1 ≠ l ∧ p.1 ≠ g ∧ p.1 ≠ gdd) :
    ∃ gl ra, (∀ p ∈ gl ++ old, p ∈ nx) ∧ GridAt P gl g wide high ra (fun _ _ => 0) ∧ ∀ p ∈ gl, ∀ q ∈ old, p.1 ≠ q.1 := by
  obtain ⟨pvs, np, oc, vv, gl, rfl, hpl, hoc, hgl, hpos⟩ := h
  obtain ⟨p0, more, ra, rfl, prs, np2, pa, pb, pc⟩ := hpos hi
  refine ⟨(l, listOf (Value.ref p0 :: more).toArray np) :: (g, instObj 165 gdd) :: (gdd, gridDict P n1 n2 tm l) :: gl, ra, ?_, ⟨?_, pc, ?_⟩, ?_⟩
  · intro p hp
    simp only [List.cons_append, List.mem_cons, List.mem_append] at hp ⊢
    rcases hp with h | h | h | h | h <;> simp [h]
  · refine ⟨gdd, l, p0, n1, n2, tm, more, np, prs, np2, .tail _ (.head _), .tail _ (.tail _ (.head _)), .head _, .tail _ (.tail _ (.tail _ pa)), fun y h0 h1 => ?_⟩
    obtain ⟨d, e, nr, f⟩ := pb y h0 h1
    exact ⟨d, (hgl _ f g (by simp)).symm, (hgl _ f gdd (by simp)).symm, (hgl _ f l (by simp)).symm, e⟩
  · intro y h0 h1
    obtain ⟨d, e, nr, f⟩ := pb y h0 h1
    refine ⟨_, nr, .tail _ (.tail _ (.tail _ f)), by rw [List.length_replicate]; omega, fun x hx0 hx1 => ⟨.none, ?_, .inl ⟨rfl, rfl⟩⟩⟩
    rw [List.getElem?_replicate, if_pos (by omega)]
  · intro p hp q hq
    obtain ⟨q1, q2, q3⟩ := hold q hq
    rcases List.mem_cons.mp hp with rfl | hp
    · exact q1.symm
    rcases List.mem_cons.mp hp with rfl | hp
    · exact q2.symm
    rcases List.mem_cons.mp hp with rfl | hp
    · exact q3.symm
    exact hgl p hp q.1 (by simp only [List.mem_cons]; exact .inr (.inr (.inr (.inr (List.mem_map.mpr ⟨q, hq, rfl⟩)))))
local macro_rules | `(tactic| walk_at "call builtin:list.append") => `(tactic| (k_here; (with_reducible show wpAny _ _ (call (Value.builtin _) [Value.ref _, _]) _ _ _); k_dflt (refine' append_K ?k1 ?k2 ?k3 ?_ ?z; (case k1 | k2 => k_asm); (case k3 => k_upd); (case z => (rw [sizeLine_eq, List.size_toArray]; omega)); k_whole); intro h' F' N'; (try k_sweep)))
theorem grid_made {own : List (Addr × Obj)} {fr fd cm : Addr} {n1 n2 n3 n4 n5 n6 nc : Nat} {v1 v2 : Value} {hh ww : Int} {th tw tn : Tok} {cvs : List Value}
    (B : Below A₀ base outer h₀) (F : Fr h₀ L s.heap m) (X : (hd.heap_39 w.params).In h₀) (N : News h₀ L s.heap own)
    (hfr : (fr, instObj 125 fd) ∈ own) (hfd : (fd, frameDict w.params n1 n2 n3 n4 n5 n6 v1 v2 (2 * hh) (2 * ww) th tw tn cm) ∈ own) (hcm : (cm, listOf cvs.toArray nc) ∈ own) (hcv : ∀ v ∈ cvs, CompIs w.params own v) (hl : cvs.length = 1 ∨ cvs.length = 2)
    (hw0 : 0 < ww) (hw1 : ww ≤ 4) (hh0 : 0 < hh) (hh1 : hh ≤ 4)
    (T : Top hd.view_39 (looseW hd.view_39 []) mean mg mb h₀) (hk : cs.kind = .function) (hdp : dp + 6 < recursionLimit) (hu : un + 64 < cLine)
    (hret : ∀ (g : Addr) gl ra h' tk', Fr h₀ L h' m → News h₀ L h' (gl ++ own) → GridAt w.params gl g ww hh ra (fun _ _ => 0) → (∀ p ∈ gl, ∀ q ∈ own, p.1 ≠ q.1) → Q (.ref g) { s with heap := h', toks := tk' }) :
    wpAny (model PySem.Challenge.rw_xm0813_01.row.prog w) (ktrTop dp un gd cn cs L a ccd cl outer) (call (.ref 165) [.ref fr]) Q E s := by
  revert X; k_fill; intro X
  k_dflt (refine' call_cls ?k1 ?k2 ?k3 ?k4 ?k5 ?k6 ?_; (case k1 => k_asm); (case k2 => k_asm); (case k3 => k_asm); (case k4 => k_is); (case k5 => k_is); (case k6 => k_is); k_whole; intro g gdd h' F' N' l1 l2; (have l3 := l1); (try k_lt l1); (try k_lt2 l2); (try k_sweep))
  k_dflt (refine' code_defC ?k1 ?k2 ?k3 ?k4 ?k5 ?kA ?kF ?kK ?k6 ?k7 ?k8 ?k9 ?kB ?kD ?_ ?c2 ?c3 ?c4; (case kA => exact rfl); (case kF => exact rfl); (case kK => assumption); (case k1 => k_asm); (case k2 => k_asm); (case k3 => k_asm); (case k4 => k_asm); (case k5 => k_asm); (case k6 => k_is); (case k7 => k_is); (case k8 => ktr_room); (case k9 => exact BindsTo.of_eq rfl); (case kB => exact rfl); (case kD => decide +kernel); (case c2 => exact rfl); (case c3 => exact rfl); (case c4 => exact rfl); k_whole; intro g' L' h' tk' cells' FG' F' N' Y' B' X' T' l4; (have l5 := l4); (try k_lt l4); k_cells Y'; (try simp only [List.cons_append, List.nil_append] at N'); (try dsimp only); (try k_lift B'); (try k_fold))
  k_steps
  refine Stop.of ?_
  rename_i co dco h6 lo h7 l7 h8 h9 tk9 t19 u19 v19 rg9 F9 N9 kp9
  refine' range_inv (n := cvs.length) ["across", "down"] (PlanesR lo (L' + 1) g gdd _ own ww hh) ?hh rg9 ?sm ?sz F9 N9 (fun p hp => hp) ?hj ?turn ?done
  case hh => rfl
  case sm => exact small_one (by omega) (by omega) (by omega) (by omega)
  case sz => rw [rangeSize_nat]; simp
  case hj => exact PlanesR.zero dco
  case turn =>
    intro i t u nx h tk I oI hi hoff e F N
    obtain ⟨pvs, np, oc, vv, gl, rfl, hpl, hoc, hgl, hpos⟩ := e
    obtain ⟨tl, htl⟩ : ∃ tl, tl = gl ++ own := ⟨_, rfl⟩
    have hsub : ∀ p ∈ own, p ∈ tl := fun p hp => htl ▸ List.mem_append_right _ hp
    have hfr2 := hsub _ hfr
    have hfd2 := hsub _ hfd
    have hcm2 := hsub _ hcm
    have hcv2 := comps_mono hcv hsub
    have off2 : OwnOff tl [I, lo, L' + 1, g, gdd] := by
      intro p hp b hb
      have hpI : p.1 ≠ I := hoff p (.tail _ (.tail _ (.tail _ (.tail _ (htl ▸ hp)))))
      rw [htl] at hp
      rcases List.mem_cons.mp hb with rfl | hb
      · exact hpI
      rcases List.mem_append.mp hp with h | h
      · refine hgl p h b ?_
        simp only [List.mem_cons, List.not_mem_nil, or_false] at hb ⊢
        rcases hb with rfl | rfl | rfl | rfl <;> simp
      · have l6 := ltN (l3 p h)
        have l2' := ltN l2
        simp only [List.mem_cons, List.not_mem_nil, or_false] at hb
        refine neN ?_
        rcases hb with rfl | rfl | rfl | rfl <;> omega
    have o1 := neN (hoff _ (.head _))
    have o2 := neN (hoff _ (.tail _ (.head _)))
    have o3 := neN (hoff _ (.tail _ (.tail _ (.head _))))
    have o4 := neN (hoff _ (.tail _ (.tail _ (.tail _ (.head _)))))
    dsimp only at o1 o2 o3 o4
    rw [← htl] at N hoff
    try k_fold
    k_steps
    rename_i qt tq1 tq2 _ _ lq _ _ co2 dco2 _ hc tkc _ _ _ rgc Fc Nc kpc
    refine Stop.of ?_
    refine' LCg.CompSrc.range (n := hh.toNat) ?hh2 Fc Nc rgc ?sm2 ?sz2 ?zz2 ?h2
    case hh2 => rfl
    case sm2 => exact small_one (by omega) (by omega) (by omega) (by omega)
    case sz2 => rw [rangeSize_nat]; simp
    case zz2 => rw [sizeLine_eq]; omega
    intro gx
    refine comp_inv (RowsInv _ ww) RowsInv.zero ?_ ?_
    · intro j ys nx v I2 oI2 C2 oC2 D2 m2 h2 tk2 E2 hj hinv hP hC hx F3 N3 off3 ne3
      have hcell : (L' + 1, co2) ∈ nx := by
        obtain ⟨rl, rfl, _⟩ := hinv
        exact List.mem_append_right _ (.tail _ (.tail _ (.tail _ (.head _))))
      k_steps
      rename_i lx _ _ r9 _ F4 N4 l9
      refine LCg.CompEnd.intro F4 N4 ((r9, _) :: nx) ?_ ⟨⟨?_, ?_, ?_⟩, off3⟩ trivial (RowsInv.next (nr := 0) hinv fun p hp => l9 p (.tail _ (.tail _ (.tail _ (.tail _ hp)))))
      · intro p hp
        rcases List.mem_cons.mp hp with rfl | hp
        · exact .tail _ (.tail _ (.head _))
        rcases List.mem_cons.mp hp with rfl | hp
        · exact .tail _ (.tail _ (.tail _ (.head _)))
        rcases List.mem_cons.mp hp with rfl | hp
        · exact .tail _ (.tail _ (.tail _ (.tail _ (.head _))))
        rcases List.mem_cons.mp hp with rfl | hp
        · exact .head _
        exact .tail _ (.tail _ (.tail _ (.tail _ (.tail _ hp))))
      · exact (Nat.ne_of_lt (l9 _ (.tail _ (.head _)))).symm
      · exact (Nat.ne_of_lt (l9 _ (.tail _ (.tail _ (.head _))))).symm
      · exact (Nat.ne_of_lt (l9 _ (.tail _ (.tail _ (.tail _ (.head _)))))).symm
    · intro ys nx hinv
      obtain ⟨rl, rfl, hyl, hr1, hr2, hr3⟩ := hinv
      intro D3 h3 tk3 F3 N3 o3'
      have o9 := off1_mem o3'
      have off3 := off_shuffle (q := (D3, LCg.lst ys)) o9 hr1 off2
      have N4 := led_shuffle N3
      obtain ⟨T3, hT3⟩ : ∃ T3, T3 = (D3, LCg.lst ys) :: (rl ++ tl) := ⟨_, rfl⟩
      rw [← hT3] at N4 off3
      dsimp only at off3
      clear N3 o3'
      have plen : pvs.length < 100 := by omega
      k_steps
      rename Fr _ _ _ _ => F5
      rename News _ _ _ _ => N5
      rw [List.push_toArray] at N5
      subst hT3
      subst htl
      refine InvEndG.intro F5 N5 ⟨?_, PlanesR.next (np' := np + 1) hpl dco2 hgl (rl_off o9 hr1) (fun p hp => o9 p (List.mem_append_left _ hp)) hr2 hr3 hpos⟩ ?_ ?_ ?_
      · intro z z1 z2
        have z3 : z ≠ Str.ofString "across" := by
          rintro rfl
          exact absurd z2 (by decide)
        have z4 : z ≠ Str.ofString "down" := by
          rintro rfl
          exact absurd z2 (by decide)
        simp [z1, z3, z4]
      · intro p hp b hb
        rw [List.mem_singleton.mp hp]
        obtain ⟨q, hq, rfl⟩ := List.mem_map.mp hb
        simp only [List.cons_append, List.mem_cons, List.mem_append] at hq
        rcases hq with rfl | rfl | rfl | rfl | h
        · exact o1.symm
        · exact o2.symm
        · exact o3.symm
        · exact o4.symm
        · refine (off3 q ?_ I (by simp)).symm
          simp only [List.mem_cons, List.mem_append]
          rcases h with h | (h | h) | h <;> simp [h]
      · intro p hp
        simp only [List.cons_append, List.mem_cons, List.mem_append] at hp ⊢
        rcases hp with h | h | h | h | h | (h | h) | h <;> simp [h]
      · intro p hp
        rw [List.mem_singleton.mp hp]
        simp
  case done =>
    intro u nx h tk e F N
    have hold : ∀ p ∈ own, p.1 ≠ lo ∧ p.1 ≠ g ∧ p.1 ≠ gdd := fun p hp => by
      have l6 := ltN (l3 p hp)
      have l2' := ltN l2
      refine ⟨neN ?_, neN ?_, neN ?_⟩ <;> omega
    obtain ⟨gl, ra, hsub, hG, hap⟩ := PlanesR.grid (P := w.params) (n1 := _) (n2 := _) (tm := _) e (by omega) (by omega) hold
    k_steps
    rename News h₀ L _ _ => N5
    exact hret g gl ra _ _ (by assumption) (fun p hp => N5 p (hsub p hp)) hG hap
end
end
section
theorem sub_last {prog : Program} {w : World} {A : Around} {E : Value → Shared → Prop} {s : Shared} {value slice : PySem.Expr} {h₀ : Heap} {L : Addr} {news : List (Addr × Obj)} {l : Addr} {vs : List Value} {nn : Nat} {u : Tok} {v : Value} {Q : Value → Shared → Prop}
    (N : News h₀ L s.heap news) (hm : (l, listOf (vs ++ [v]).toArray nn) ∈ news) (h : Q v s)
    (hs : subscripted slice false (.ref l) (.int (-1) u) = operate [.ref l, .int (-1) u] (getItem (.ref l) (.int (-1) u)) := by with_unfolding_all rfl) :
    wpAny (model prog w) A (subscriptTail value slice (.ref l) (.int (-1) u)) Q E s :=
  have hl : s.heap.IsList l (vs ++ [v]).toArray := ⟨_, (N _ hm).1, rfl, nn, rfl⟩
  tail_any hl.typeIs slot_list_getitem.lookup (wpAny_getItem_list_neg hl (by decide) (by simp; omega) (by decide) (by simp; rw [show (-1 + ((vs.length : Int) + 1)).toNat = vs.length by omega]; simp) h) hs
def RowsAt (own : List (Addr × Obj)) (high : Int) (ra : Int → Addr) (rws : List Value) (i : Nat) (wide : Int) (G : Int → Int → Int) : Prop :=
  rws.length = i ∧ ∀ y : Nat, y < i → ∃ (r : Addr) (vs : List Value) (nn : Nat), rws[y]? = some (.ref r) ∧ (r, listOf vs.toArray nn) ∈ own ∧ IntsAre vs ((List.range wide.toNat).map fun (x : Nat) => G (y : Int) (x : Int)) ∧ ∀ b, 0 ≤ b → b < high → r ≠ ra b
theorem RowsAt.mono {own own' : List (Addr × Obj)} {high : Int} {ra : Int → Addr} {rws : List Value} {i : Nat} {wide : Int} {G G' : Int → Int → Int} (h : RowsAt own high ra rws i wide G)
    (hs : ∀ p ∈ own, (∀ b, 0 ≤ b → b < high → p.1 ≠ ra b) → p ∈ own') (hG : ∀ y : Nat, y < i → ∀ x, G' (y : Int) x = G (y : Int) x) : RowsAt own' high ra rws i wide G' := by
  refine ⟨h.1, fun y hy => ?_⟩
  obtain ⟨r, vs, nn, a, b, c, d⟩ := h.2 y hy
  refine ⟨r, vs, nn, a, hs _ b d, ?_, d⟩
  have e : (fun (x : Nat) => G' (y : Int) (x : Int)) = fun (x : Nat) => G (y : Int) (x : Int) := funext fun x => hG y hy x
  rw [e]; exact c
theorem RowsAt.snoc {own : List (Addr × Obj)} {high : Int} {ra : Int → Addr} {rws : List Value} {i : Nat} {wide : Int} {G : Int → Int → Int} {cur : Addr} {ivs : List Value} {nn : Nat} (h : RowsAt own high ra rws i wide G)
    (hI : IntsAre ivs ((List.range wide.toNat).map fun (x : Nat) => G (i : Int) (x : Int))) (hc : ∀ b, 0 ≤ b → b < high → cur ≠ ra b) : RowsAt ((cur, listOf ivs.toArray nn) :: own) high ra (rws ++ [.ref cur]) (i + 1) wide G := by
  refine ⟨by simp [h.1], fun y hy => ?_⟩
  by_cases hyi : y < i
  · obtain ⟨r, vs, nn', a, b, c, d⟩ := h.2 y hyi
    exact ⟨r, vs, nn', by rw [List.getElem?_append_left (by rw [h.1]; exact hyi)]; exact a, .tail _ b, c, d⟩
  · have e : y = i := by omega
    subst e
    refine ⟨cur, ivs, nn, ?_, .head _, hI, hc⟩
    rw [List.getElem?_append_right (by rw [h.1]; exact Nat.le_refl _)]
    simp [h.1]
def OutR (P : Params) (fa ro g : Addr) (wide high : Int) (ra : Int → Addr) (i : Nat) (nx : List (Addr × Obj)) : Prop :=
  ∃ (f0 f1 : Int) (t0 t1 : Tok) (rws : List Value) (rn : Nat) (own : List (Addr × Obj)) (G : Int → Int → Int), nx = (fa, listOf [Value.int f0 t0, .int f1 t1].toArray 0) :: (ro, listOf rws.toArray rn) :: own ∧
    0 ≤ f0 ∧ 0 ≤ f1 ∧ f1 < 70000 ∧ OwnOff own [fa, ro] ∧ GridAt P own g wide high ra G ∧ RowsAt own high ra rws i wide G ∧ ∀ y x : Int, (i : Int) ≤ y → G y x = 0
def InR (P : Params) (fa ro g cur I : Addr) (oI : Obj) (rws : List Value) (rn : Nat) (wide high : Int) (ra : Int → Addr) (i : Nat) (k : Nat) (nx : List (Addr × Obj)) : Prop :=
  ∃ (f0 f1 : Int) (t0 t1 : Tok) (ivs : List Value) (inn : Nat) (own : List (Addr × Obj)) (G : Int → Int → Int), nx = (fa, listOf [Value.int f0 t0, .int f1 t1].toArray 0) :: (ro, listOf (rws ++ [Value.ref cur]).toArray rn) :: (cur, listOf ivs.toArray inn) :: (I, oI) :: own ∧
    0 ≤ f0 ∧ 0 ≤ f1 ∧ f1 < 70000 ∧ OwnOff own [fa, ro, cur, I] ∧ GridAt P own g wide high ra G ∧ RowsAt own high ra rws i wide G ∧ IntsAre ivs ((List.range k).map fun (x : Nat) => G (i : Int) (x : Int)) ∧
    (∀ x : Int, (k : Int) ≤ x → G (i : Int) x = 0) ∧ ∀ y x : Int, (i : Int) < y → G y x = 0
theorem putG {G : Int → Int → Int} {i k : Nat} {v : Int} (h : ∀ x : Int, (k : Int) ≤ x → G (i : Int) x = 0) : ∀ x : Int, ((k + 1 : Nat) : Int) ≤ x → (if (i : Int) = (i : Int) ∧ x = (k : Int) then v else G (i : Int) x) = 0 := by
  intro x hx
  rw [if_neg (by omega)]
  exact h x (by omega)
theorem range_snoc {G : Int → Int → Int} {i k : Nat} : ((List.range (k + 1)).map fun (x : Nat) => G (i : Int) (x : Int)) = ((List.range k).map fun (x : Nat) => G (i : Int) (x : Int)) ++ [G (i : Int) (k : Int)] := by
  simp [List.range_succ]
theorem ints_put {ivs : List Value} {G : Int → Int → Int} {i k : Nat} {v : Int} {t : Tok} (h : IntsAre ivs ((List.range k).map fun (x : Nat) => G (i : Int) (x : Int))) :
    IntsAre (ivs ++ [.int v t]) ((List.range (k + 1)).map fun (x : Nat) => (fun b a => if b = (i : Int) ∧ a = (k : Int) then v else G b a) (i : Int) (x : Int)) := by
  rw [range_snoc (G := fun b a => if b = (i : Int) ∧ a = (k : Int) then v else G b a)]
  have e : ((List.range k).map fun (x : Nat) => (fun b a => if b = (i : Int) ∧ a = (k : Int) then v else G b a) (i : Int) (x : Int)) = (List.range k).map fun (x : Nat) => G (i : Int) (x : Int) := by
    apply List.map_congr_left
    intro x hx
    have hx' := List.mem_range.mp hx
    show (if (i : Int) = (i : Int) ∧ (x : Int) = (k : Int) then v else G (i : Int) (x : Int)) = G (i : Int) (x : Int)
    rw [if_neg (by omega)]
  rw [e]
  refine h.append ?_
  show IntsAre [.int v t] [if (i : Int) = (i : Int) ∧ (k : Int) = (k : Int) then v else G (i : Int) (k : Int)]
  rw [if_pos ⟨rfl, rfl⟩]
  exact .cons _ _ .nil
theorem ints_zero {ivs : List Value} {G : Int → Int → Int} {i k : Nat} {t : Tok} (h : IntsAre ivs ((List.range k).map fun (x : Nat) => G (i : Int) (x : Int))) (hz : ∀ x : Int, (k : Int) ≤ x → G (i : Int) x = 0) :
    IntsAre (ivs ++ [.int 0 t]) ((List.range (k + 1)).map fun (x : Nat) => G (i : Int) (x : Int)) := by
  rw [range_snoc, hz k (Int.le_refl _)]
  exact h.append (.cons _ _ .nil)
end
section
theorem pick_hd {l : List Value} : kms_pick l none (some 1) = l.take 1 := by
  cases l with
  | nil => rfl
  | cons a l =>
    show List.take (min 1 (l.length + 1) - 0) (List.drop 0 (a :: l)) = _
    rw [show min 1 (l.length + 1) - 0 = 1 by omega]
    rfl
theorem pick_last {l : List Value} : kms_pick l (some (-1)) none = l.drop (l.length - 1) := by
  show List.take (l.length - (l.length - 1)) (List.drop (l.length - 1) l) = _
  exact List.take_of_length_le (by rw [List.length_drop]; exact Nat.le_refl _)
theorem pick_three {l : List Value} {x : Int} (h : 0 ≤ x) : kms_pick l (some x) (some (x + 3)) = (l.drop x.toNat).take 3 := by
  have a : kms_lo (some x) l.length = min x.toNat l.length := by
    show (if x < 0 then _ else _) = _
    rw [if_neg (by omega)]
  have b : kms_hi (some (x + 3)) l.length = min (x.toNat + 3) l.length := by
    show (if x + 3 < 0 then _ else _) = _
    rw [if_neg (by omega), show (x + 3).toNat = x.toNat + 3 by omega]
  unfold kms_pick
  rw [a, b]
  by_cases hl : x.toNat ≤ l.length
  · rw [Nat.min_eq_left hl]
    by_cases h3 : x.toNat + 3 ≤ l.length
    · rw [Nat.min_eq_left h3, show x.toNat + 3 - x.toNat = 3 by omega]
    · rw [Nat.min_eq_right (by omega), List.take_of_length_le (by rw [List.length_drop]; omega), List.take_of_length_le (by rw [List.length_drop]; omega)]
  · rw [show min x.toNat l.length = l.length by omega, List.drop_of_length_le (Nat.le_refl _), List.drop_of_length_le (show l.length ≤ x.toNat by omega)]
    simp
def padL {α : Type} (l : List α) : List α := (l.take 1 ++ l) ++ l.drop (l.length - 1)
def rowL (G : Int → Int → Int) (wide : Int) (y : Int) : List Int := (List.range wide.toNat).map fun (x : Nat) => G y (x : Int)
theorem IntsPad {vs : List Value} {ns : List Int} (h : IntsAre vs ns) : IntsAre (padL vs) (padL ns) := by
  unfold padL
  rw [h.length]
  exact ((h.take 1).append h).append (h.drop _)
theorem keptI_cast {p n : Int} : ((keptI p n).toNat : Int) = keptI p n := Int.toNat_of_nonneg keptI_lo
theorem keptI_mid {i : Nat} {n : Int} (h : (i : Int) < n) : keptI (i : Int) n = i := by
  unfold keptI
  omega
theorem keptI_neg {n : Int} (h : 0 < n) : keptI (-1) n = 0 := by
  unfold keptI
  omega
theorem keptI_end {n : Int} (h : 0 < n) : keptI n n = n - 1 := by
  unfold keptI
  omega
theorem pad_get {l : List Value} {n : Int} (hn : 0 < n) (hl : (l.length : Int) = n) (i : Nat) (hi : i < l.length + 2) : (padL l)[i]? = l[(keptI ((i : Int) - 1) n).toNat]? := by
  have ht : (l.take 1).length = 1 := by rw [List.length_take]; omega
  unfold padL
  match i, hi with
  | 0, _ =>
    rw [show ((0 : Nat) : Int) - 1 = -1 by omega, keptI_neg hn, List.append_assoc, List.getElem?_append_left (by omega), List.getElem?_take]
    rfl
  | i + 1, hi =>
    rw [show ((i + 1 : Nat) : Int) - 1 = i by omega]
    by_cases h : i < l.length
    · rw [keptI_mid (by omega), List.getElem?_append_left (by rw [List.length_append]; omega), List.getElem?_append_right (by omega), ht]
      rfl
    · have e : i = l.length := by omega
      rw [e, hl, keptI_end hn, List.getElem?_append_right (by rw [List.length_append]; omega), List.getElem?_drop]
      congr 1
      rw [List.length_append, ht]
      omega
theorem pad_length {α : Type} {l : List α} (h : 0 < l.length) : (padL l).length = l.length + 2 := by
  unfold padL
  rw [List.length_append, List.length_append, List.length_take, List.length_drop]
  omega
theorem src_row {own : List (Addr × Obj)} {high : Int} {ra : Int → Addr} {rws : List Value} {wide : Int} {G : Int → Int → Int} (hR : RowsAt own high ra rws high.toNat wide G) (hh : 0 < high) {i : Nat} {v : Value} (hi : i < high.toNat + 2) (hv : (padL rws)[i]? = some v) :
    ∃ (r : Addr) (vs : List Value) (nn : Nat), v = .ref r ∧ (r, listOf vs.toArray nn) ∈ own ∧ IntsAre vs (rowL G wide (keptI ((i : Int) - 1) high)) := by
  rw [pad_get hh (by rw [hR.1]; omega) i (by rw [hR.1]; exact hi)] at hv
  have hk : (keptI ((i : Int) - 1) high).toNat < high.toNat := by
    have := keptI_lo (p := (i : Int) - 1) (n := high)
    have := keptI_hi (p := (i : Int) - 1) hh
    omega
  obtain ⟨r, vs, nn, a, b, c, _⟩ := hR.2 _ hk
  rw [a] at hv
  cases hv
  refine ⟨r, vs, nn, rfl, b, ?_⟩
  rw [keptI_cast] at c
  exact c
def PadInv (old : List (Addr × Obj)) (G : Int → Int → Int) (wide high : Int) (i : Nat) (ys : List Value) (nx : List (Addr × Obj)) : Prop :=
  ∃ rl, nx = rl ++ old ∧ ys.length = i ∧ (∀ p ∈ rl, ∀ q ∈ old, q.1 < p.1) ∧ ∀ j : Nat, j < i → ∃ (r : Addr) (vs : List Value) (nn : Nat), ys[j]? = some (.ref r) ∧ (r, listOf vs.toArray nn) ∈ rl ∧ IntsAre vs (padL (rowL G wide (keptI ((j : Int) - 1) high)))
theorem PadInv.zero {old : List (Addr × Obj)} {G : Int → Int → Int} {wide high : Int} : PadInv old G wide high 0 [] old :=
  ⟨[], rfl, rfl, (fun _ h => nomatch h), fun _ h => absurd h (Nat.not_lt_zero _)⟩
theorem PadInv.next {old nx : List (Addr × Obj)} {G : Int → Int → Int} {wide high : Int} {i : Nat} {ys : List Value} {r : Addr} {nr : Nat} {vs : List Value} (h : PadInv old G wide high i ys nx) (hr : ∀ p ∈ nx, p.1 < r) (hI : IntsAre vs (rowL G wide (keptI ((i : Int) - 1) high))) :
    PadInv old G wide high (i + 1) (ys ++ [.ref r]) ((r, listOf (padL vs).toArray nr) :: nx) := by
  obtain ⟨rl, rfl, hl, h1, h2⟩ := h
  refine ⟨(r, _) :: rl, rfl, by simp [hl], ?_, ?_⟩
  · intro p hp q hq
    rcases List.mem_cons.mp hp with rfl | hp
    · exact hr q (List.mem_append_right _ hq)
    · exact h1 p hp q hq
  · intro j hj
    by_cases hji : j < i
    · obtain ⟨r', vs', nn, a, b, c⟩ := h2 j hji
      exact ⟨r', vs', nn, by rw [List.getElem?_append_left (by rw [hl]; exact hji)]; exact a, .tail _ b, c⟩
    · have e : j = i := by omega
      subst e
      refine ⟨r, padL vs, nr, ?_, .head _, IntsPad hI⟩
      rw [List.getElem?_append_right (by rw [hl]; exact Nat.le_refl _)]
      simp [hl]
theorem pad_three (G : Int → Int → Int) (q : Int) : ∀ (w x : Nat), w ≤ 4 → x < w → ((padL (rowL G (w : Int) q)).drop x).take 3 = [G q (keptI ((x : Int) - 1) w), G q (keptI (x : Int) w), G q (keptI ((x : Int) + 1) w)] := by
  intro w x hw hx
  match w, x, hw, hx with
  | 1, 0, _, _ => rfl
  | 2, 0, _, _ => rfl
  | 2, 1, _, _ => rfl
  | 3, 0, _, _ => rfl
  | 3, 1, _, _ => rfl
  | 3, 2, _, _ => rfl
  | 4, 0, _, _ => rfl
  | 4, 1, _, _ => rfl
  | 4, 2, _, _ => rfl
  | 4, 3, _, _ => rfl
theorem due_nine {G : Int → Int → Int} {wide high x y : Int} (hw : wide ≤ 4) (hx0 : 0 ≤ x) (hx1 : x < wide) :
    (((padL (rowL G wide (keptI (y - 1) high))).drop x.toNat).take 3 ++ ((padL (rowL G wide (keptI (y + 1 - 1) high))).drop x.toNat).take 3) ++ ((padL (rowL G wide (keptI (y + 2 - 1) high))).drop x.toNat).take 3 = nineRows G x y wide high 3 := by
  obtain ⟨w, rfl⟩ : ∃ w : Nat, wide = w := ⟨wide.toNat, by omega⟩
  obtain ⟨a, rfl⟩ : ∃ a : Nat, x = a := ⟨x.toNat, by omega⟩
  have e : ((a : Int)).toNat = a := rfl
  rw [e, pad_three G _ w a (by omega) (by omega), pad_three G _ w a (by omega) (by omega), pad_three G _ w a (by omega) (by omega)]
  rw [show y + 1 - 1 = y + 0 by omega, show y + 2 - 1 = y + 1 by omega, show y - 1 = y + -1 by omega]
  rw [show (a : Int) - 1 = a + -1 by omega]
  have e2 : keptI (a : Int) (w : Int) = keptI ((a : Int) + 0) w := by rw [Int.add_zero]
  rw [e2]
  rfl
section
variable {prog : Program} {w : World} {A : Around} {E : Value → Shared → Prop} {s : Shared} {h₀ : Heap} {L l a b : Addr} {m : Str → Option Value} {news : List (Addr × Obj)} {value slice : PySem.Expr} {vs ws zs : List Value} {n1 n2 : Nat} {vl vu : Value} {lo hi : Option Int} {Q : Value → Shared → Prop}
theorem add_led (F : Fr h₀ L s.heap m) (N : News h₀ L s.heap news) (ha : (a, listOf vs.toArray n1) ∈ news) (hb : (b, listOf ws.toArray n2) ∈ news) (hz : vs.length + ws.length ≤ 1000)
    (h : ∀ D h', Fr h₀ L h' m → News h₀ L h' ((D, listOf (vs ++ ws).toArray 0) :: news) → (∀ p ∈ news, p.1 < D) → Q (.ref D) { s with heap := h' }) : wpAny (model prog w) A (binaryOp .Add (.ref a) (.ref b)) Q E s :=
  kmk_add_lit F N (led_list N ha) (led_list N hb) rfl h (by rw [sizeLine_eq]; exact Nat.le_trans hz (by decide))
theorem slice_led (F : Fr h₀ L s.heap m) (N : News h₀ L s.heap news) (hl : (l, listOf vs.toArray n1) ∈ news) (pl : IsPart vl lo) (pu : IsPart vu hi) (e : kms_pick vs lo hi = zs) (hz : vs.length ≤ 1000)
    (h : ∀ D h', Fr h₀ L h' m → News h₀ L h' ((D, listOf zs.toArray 0) :: news) → (∀ p ∈ news, p.1 < D) → Q (.ref D) { s with heap := h' })
    (hs : subscripted slice false (.ref l) (.ref s.heap.objs.size) = operate [.ref s.heap.objs.size, .ref l] (getItem (.ref l) (.ref s.heap.objs.size))) (ht : ∀ r, letTemporaryGo value (.ref l) r = pure ()) :
    wpAny (model prog w) A (subscriptTail value slice (.ref l) (.ref s.heap.objs.size)) Q E { s with heap := s.heap.push { cls := .type "slice", data := .fields #[vl, vu, .none] } } :=
  kms_slice_lit F N (led_list N hl) pl pu e h hs ht (by rw [sizeLine_eq, List.size_toArray]; exact Nat.le_trans hz (by decide))
end
end
section
theorem led_step {h₀ h : Heap} {L d : Addr} {o o' : Obj} {news nw : List (Addr × Obj)} {P : Prop} (hN : ∀ news', Upd d o o' news news' → News h₀ L h news') (U : Upd d o o' news nw) (k : News h₀ L h nw → P) : P := k (hN _ U)
local macro_rules | `(tactic| walk_at "exec For Name Call cons nil") => `(tactic| (k_here; (rename Fr _ _ _ _ => lF'); (with_unfolding_all refine' For_invVF lF' ?k1 ?k2 ?_; (case k1 | k2 => exact rfl); k_whole)))
local macro_rules | `(tactic| walk_at "pyIter ref") => `(tactic| ((with_reducible show wpAny _ _ (pyIter (Value.ref _)) (fun it s₂ => LoopAtV _ _ _ _ _ _ _ _ _ it s₂) _ _); refine toStop ?_))
local macro_rules | `(tactic| walk_at "call ref") => `(tactic| (k_here; (with_reducible show wpAny _ _ (call (Value.ref 176) _) _ _ _); k_dflt (refine' law_field ?b ?f ?x ?n ?l ?i ?z ?t ?k ?d ?u ?_; (case b | f | x | n | l => k_asm); (case i => l_ints); (case z => l_fit); (case t => k_asm); (case k => first | exact rfl | assumption); (case d => ktr_room); (case u => ktr_units); k_whole); intro r' f0' f1' t0' t1' h' tk' ha' hb' hc' F' N' l2; (try k_lt l2); (try k_sweep)))
local macro_rules | `(tactic| walk_at "call ref") => `(tactic| (k_here; (with_reducible show wpAny _ _ (call (Value.ref 183) _) _ _ _); k_dflt (refine' furrow ?b ?f ?x ?n ?m ?t ?k ?a1 ?a2 ?a3 ?a4 ?a5 ?d ?u ?_; (case b | f | x | n => k_asm); (case m => k_mem); (case t => k_asm); (case k => first | exact rfl | assumption); (case a1 | a2 => first | decide | omega); (case a3 | a4 | a5 => assumption); (case d => ktr_room); (case u => ktr_units); k_whole); intro r' tr' g0' g1' u0' u1' h' tk' ha' hb' hc' hd' he' F' hN'; k_dflt (refine' led_step hN' ?q ?_; (case q => k_upd)); clear hN'; intro N'; (try k_sweep)))
local macro_rules | `(tactic| walk_at "execs cons") => `(tactic| ((with_reducible show wpAny _ _ (execs (Stmt.Assign [Expr.Name (Str.ofString "frame") _] _ _ :: _) _) _ _ _); refine toStop ?_))
local macro_rules | `(tactic| walk_at "CompSrc") => `(tactic| (k_here; k_dflt (refine LCg.CompSrc.range (by rfl) (by k_asm) (by k_asm) (by assumption) (by first | decide | rfl) (by first | rfl | decide) (by first | size_fits | exact Nat.le_of_ble_eq_true rfl) ?_; intro g'; lcg_lit)))
local macro_rules | `(tactic| walk_at "CompSrc") => `(tactic| ((with_reducible show LCg.CompSrc _ _ _ _ _ _ _ (Expr.BinOp (Expr.List _ _) _ _ _) _ _ _ _ _ _); refine toStop ?_))
theorem cut2 {M : Model} {A : Around} {a b : Stmt} {rest : List Stmt} {env : Env} {Q : Flow → Shared → Prop} {E : Value → Shared → Prop} {s : Shared} (Mid : Shared → Prop)
    (h1 : wpAny M A (exec a env) (fun f s' => match f with | .next => wpAny M A (exec b env) (fun f s' => match f with | .next => Mid s' | _ => False) E s' | _ => False) E s)
    (h2 : ∀ s', Mid s' → wpAny M A (execs rest env) Q E s') : wpAny M A (execs (a :: b :: rest) env) Q E s := by
  refine wpAny_execs_cons (wpAny_mono h1 (fun f s' h => ?_) fun _ _ e => e)
  cases f <;> first | exact h.elim | skip
  refine wpAny_execs_cons (wpAny_mono h (fun f s' h => ?_) fun _ _ e => e)
  cases f <;> first | exact h.elim | exact h2 _ h
def MidG (P : Prop) : Prop := P
def MidA (P : Params) (h₀ : Heap) (L : Addr) (m : Str → Option Value) (s : Shared) (fa : Addr) (f0 f1 : Int) (t0 t1 : Tok) (wide high : Int) (s' : Shared) : Prop :=
  ∃ (h' : Heap) (tk' : Nat) (g ro fr : Addr) (own : List (Addr × Obj)) (ra : Int → Addr), s' = { s with heap := h', toks := tk' } ∧
    Fr h₀ L h' (fun y => if y = Str.ofString "grid" then some (.ref g) else if y = Str.ofString "rows" then some (.ref ro) else if y = Str.ofString "frame" then some (.ref fr) else m y) ∧
    News h₀ L h' ((fa, listOf [Value.int f0 t0, .int f1 t1].toArray 0) :: (ro, listOf ([] : List Value).toArray 0) :: own) ∧ OwnOff own [fa, ro] ∧ @Ne Nat fa ro ∧ GridAt P own g wide high ra (fun _ _ => 0)
theorem cutA {M : Model} {A : Around} {a b : Stmt} {rest : List Stmt} {env : Env} {Q : Flow → Shared → Prop} {E : Value → Shared → Prop} {s : Shared} {h₀ : Heap} {L : Addr} {m : Str → Option Value} {w : World} (_F : Fr h₀ L s.heap m) (_X : (hd.heap_39 w.params).In h₀) (fa : Addr) (f0 f1 : Int) (t0 t1 : Tok) (wide high : Int)
    (h1 : wpAny M A (exec a env) (fun f s' => match f with | .next => wpAny M A (exec b env) (fun f s' => match f with | .next => MidA w.params h₀ L m s fa f0 f1 t0 t1 wide high s' | _ => False) E s' | _ => False) E s)
    (h2 : ∀ s', MidA w.params h₀ L m s fa f0 f1 t0 t1 wide high s' → wpAny M A (execs rest env) Q E s') : wpAny M A (execs (a :: b :: rest) env) Q E s := cut2 _ h1 h2
local macro_rules | `(tactic| walk_at "call ref") => `(tactic| ((with_reducible show wpAny _ _ (call (Value.ref 165) _) _ _ _); refine toStop ?_))
theorem midA_end {P : Params} {h₀ h' : Heap} {L fa g ro fr D : Addr} {oD : Obj} {m : Str → Option Value} {s s' : Shared} {f0 f1 wide high : Int} {t0 t1 : Tok} {gl : List (Addr × Obj)} {ra : Int → Addr} {tk' : Nat} (e : s' = { s with heap := h', toks := tk' })
    (F : Fr h₀ L h' (fun y => if y = Str.ofString "grid" then some (.ref g) else if y = Str.ofString "rows" then some (.ref ro) else if y = Str.ofString "frame" then some (.ref fr) else m y))
    (N : News h₀ L h' ((D, oD) :: (ro, listOf ([] : List Value).toArray 0) :: (fa, listOf [Value.int f0 t0, .int f1 t1].toArray 0) :: gl)) (l1 : fa < ro ∧ AllLt ro gl) (hoff : OwnOff gl [fa]) (hG : GridAt P gl g wide high ra (fun _ _ => 0)) :
    MidA P h₀ L m s fa f0 f1 t0 t1 wide high s' := by
  refine ⟨h', tk', g, ro, fr, gl, ra, e, F, fun p hp => ?_, fun p hp b hb => ?_, Nat.ne_of_lt l1.1, hG⟩
  · rcases List.mem_cons.mp hp with rfl | hp
    · exact N _ (.tail _ (.tail _ (.head _)))
    rcases List.mem_cons.mp hp with rfl | hp
    · exact N _ (.tail _ (.head _))
    exact N _ (.tail _ (.tail _ (.tail _ hp)))
  · simp only [List.mem_cons, List.not_mem_nil, or_false] at hb
    rcases hb with rfl | rfl
    · exact hoff p hp _ (by simp)
    · exact Nat.ne_of_lt (lt_of_all l1.2 p hp)
theorem comps1 {P : Params} {own : List (Addr × Obj)} {x : Value} (h : CompIs P own x) : ∀ v ∈ [x], CompIs P own v := fun v hv => by rw [List.mem_singleton.mp hv]; exact h
theorem comps2 {P : Params} {own : List (Addr × Obj)} {x y : Value} (h : CompIs P own x) (h' : CompIs P own y) : ∀ v ∈ [x, y], CompIs P own v := fun v hv => by
  rcases List.mem_cons.mp hv with rfl | hv
  · exact h
  · rw [List.mem_singleton.mp hv]; exact h'
theorem led_pick {h₀ h : Heap} {L fa : Addr} {o : Obj} {gl old : List (Addr × Obj)} (N : News h₀ L h (gl ++ old)) (hm : (fa, o) ∈ old) (hap : ∀ p ∈ gl, ∀ q ∈ old, p.1 ≠ q.1) : News h₀ L h ((fa, o) :: gl) ∧ OwnOff gl [fa] := by
  refine ⟨fun p hp => ?_, fun p hp b hb => ?_⟩
  · rcases List.mem_cons.mp hp with rfl | hp
    · exact N _ (List.mem_append_right _ hm)
    · exact N _ (List.mem_append_left _ hp)
  · rw [List.mem_singleton.mp hb]; exact hap p hp _ hm
local macro_rules | `(tactic| walk_at "call type:range") => `(tactic| (k_here; (with_reducible show wpAny _ _ (call (Value.type "range") [Value.int _ _]) (fun xv s₁ => wpAny _ _ (pyIter xv) _ _ s₁) _ _); k_dflt (refine' range1_rows ?f ?n ?_; (case f | n => k_asm); k_whole); intro h' tk' t1' u1' v1' rg' F' N' kp'; (try k_sweep)))
local macro_rules | `(tactic| walk_at "call builtin:list.append") => `(tactic| (k_here; (with_reducible show wpAny _ _ (call (Value.builtin _) [Value.ref _, _]) _ _ _); k_dflt (refine' append_K ?k1 ?k2 ?k3 ?_ ?z; (case k1 | k2 => k_asm); (case k3 => k_upd); (case z => (rw [sizeLine_eq, List.size_toArray]; omega)); k_whole); intro h' F' N'; (try k_sweep)))
local macro_rules | `(tactic| k_mem) => `(tactic| assumption)
local macro_rules | `(tactic| walk_at "call ref") => `(tactic| ((with_reducible show wpAny _ _ (call (Value.ref 162) _) _ _ _); refine toStop ?_))
local macro_rules | `(tactic| walk_at "subscriptTail Name UnaryOp ref int") => `(tactic| (k_here; (with_reducible show wpAny _ _ (subscriptTail _ _ (Value.ref _) (Value.int _ _)) _ _ _); (with_unfolding_all refine' sub_last ?k1 ?k2 ?_ ?k6; (case k1 => k_asm); (case k2 => k_mem); (case k6 => with_unfolding_all rfl); k_whole)))
theorem off_more {own : List (Addr × Obj)} {row I2 fa ro cur I : Addr} (h : OwnOff own [fa, ro, cur, I, I2]) (hl : ∀ p ∈ own, p.1 < row) : OwnOff own [row, I2, fa, ro, cur, I] := by
  intro p hp b hb
  rcases List.mem_cons.mp hb with rfl | hb
  · exact Nat.ne_of_lt (hl p hp)
  · refine h p hp b ?_
    simp only [List.mem_cons, List.not_mem_nil, or_false] at hb ⊢
    rcases hb with h | h | h | h | h <;> simp [h]
theorem adr_in {r a b c d e : Addr} {o1 o2 o3 o4 o5 o6 : Obj} {own : List (Addr × Obj)} : ∀ x ∈ [r, a, b, c, d, e], ∃ o, (x, o) ∈ (r, o1) :: (a, o2) :: (b, o3) :: (c, o4) :: (d, o5) :: (e, o6) :: own := by
  intro x hx
  simp only [List.mem_cons, List.not_mem_nil, or_false] at hx
  rcases hx with rfl | rfl | rfl | rfl | rfl | rfl
  · exact ⟨_, .head _⟩
  · exact ⟨_, .tail _ (.head _)⟩
  · exact ⟨_, .tail _ (.tail _ (.head _))⟩
  · exact ⟨_, .tail _ (.tail _ (.tail _ (.head _)))⟩
  · exact ⟨_, .tail _ (.tail _ (.tail _ (.tail _ (.head _))))⟩
  · exact ⟨_, .tail _ (.tail _ (.tail _ (.tail _ (.tail _ (.head _)))))⟩
theorem put_led {h₀ h' : Heap} {L : Addr} {r a b c d e : Addr × Obj} {own own' : List (Addr × Obj)} (hN : ∀ news', (∀ p ∈ news', p ∈ own' ∨ (p ∈ r :: a :: b :: c :: d :: e :: own ∧ p.1 ∈ [r.1, a.1, b.1, c.1, d.1, e.1])) → News h₀ L h' news') :
    News h₀ L h' (a :: b :: c :: d :: e :: own') := by
  refine hN _ fun p hp => ?_
  simp only [List.mem_cons] at hp
  rcases hp with rfl | rfl | rfl | rfl | rfl | h
  · exact .inr ⟨by simp, by simp⟩
  · exact .inr ⟨by simp, by simp⟩
  · exact .inr ⟨by simp, by simp⟩
  · exact .inr ⟨by simp, by simp⟩
  · exact .inr ⟨by simp, by simp⟩
  · exact .inl h
theorem ends_new {a b c d : Addr × Obj} {own' : List (Addr × Obj)} {I : Addr} {oI : Obj} (c1 : a.1 ≠ I) (c2 : b.1 ≠ I) (c3 : c.1 ≠ I) (c4 : d.1 ≠ I) (h : ∀ p ∈ own', p.1 ≠ I) : OwnOff [(I, oI)] ((a :: b :: c :: d :: own').map (·.1)) := by
  intro p hp x hx
  rw [List.mem_singleton.mp hp]
  obtain ⟨q, hq, rfl⟩ := List.mem_map.mp hx
  simp only [List.mem_cons] at hq
  rcases hq with rfl | rfl | rfl | rfl | hq
  · exact c1.symm
  · exact c2.symm
  · exact c3.symm
  · exact c4.symm
  · exact (h q hq).symm
theorem ends_new3 {a b c : Addr × Obj} {own' : List (Addr × Obj)} {I : Addr} {oI : Obj} (c1 : a.1 ≠ I) (c2 : b.1 ≠ I) (c3 : c.1 ≠ I) (h : ∀ p ∈ own', p.1 ≠ I) : OwnOff [(I, oI)] ((a :: b :: c :: own').map (·.1)) := by
  intro p hp x hx
  rw [List.mem_singleton.mp hp]
  obtain ⟨q, hq, rfl⟩ := List.mem_map.mp hx
  simp only [List.mem_cons] at hq
  rcases hq with rfl | rfl | rfl | hq
  · exact c1.symm
  · exact c2.symm
  · exact c3.symm
  · exact (h q hq).symm
theorem pad_room {vs : List Value} {G : Int → Int → Int} {wide q : Int} (h : IntsAre vs (padL (rowL G wide q))) (h0 : 0 < wide) (h4 : wide ≤ 4) : vs.length ≤ 6 := by
  have e : (rowL G wide q).length = wide.toNat := by simp [rowL]
  rw [h.length, pad_length (by rw [e]; omega), e]
  omega
theorem led_done {h₀ h : Heap} {L : Addr} {D a b c d fa ro : Addr × Obj} {rl own : List (Addr × Obj)} (N : News h₀ L h (D :: (rl ++ (a :: b :: c :: d :: fa :: ro :: own)))) : News h₀ L h (fa :: D :: (rl ++ own)) := by
  intro p hp
  refine N p ?_
  simp only [List.mem_cons, List.mem_append] at hp ⊢
  rcases hp with h | h | h | h <;> simp [h]
theorem off_done {a b c d fa ro : Addr × Obj} {rl own : List (Addr × Obj)} {D : Addr} (o9 : ∀ p ∈ rl ++ (a :: b :: c :: d :: fa :: ro :: own), p.1 ≠ D) (hr1 : ∀ p ∈ rl, ∀ q ∈ a :: b :: c :: d :: fa :: ro :: own, q.1 < p.1) (ho : OwnOff own [fa.1, ro.1]) : OwnOff (rl ++ own) [fa.1, D] ∧ @Ne Nat fa.1 D := by
  refine ⟨fun p hp x hx => ?_, o9 fa (by simp)⟩
  simp only [List.mem_cons, List.not_mem_nil, or_false] at hx
  rcases List.mem_append.mp hp with hp | hp
  · rcases hx with rfl | rfl
    · exact Nat.ne_of_gt (hr1 p hp fa (by simp))
    · exact o9 p (List.mem_append_left _ hp)
  · rcases hx with rfl | rfl
    · exact ho p hp _ (by simp)
    · exact o9 p (by simp [hp])
local macro_rules | `(tactic| walk_at "execs cons") => `(tactic| ((with_reducible show wpAny _ _ (execs (Stmt.Assign [Expr.Name (Str.ofString "rows") _] (Expr.ListComp _ _ _ _) _ :: _) _) _ _ _); refine toStop ?_))
local macro_rules | `(tactic| walk_at "execs cons") => `(tactic| ((with_reducible show wpAny _ _ (execs (Stmt.Assign [Expr.Name (Str.ofString "due") _] _ _ :: _) _) _ _ _); refine toStop ?_))
local macro_rules | `(tactic| walk_at "CompSrc") => `(tactic| ((with_reducible show LCg.CompSrc _ _ _ _ _ _ _ (Expr.BinOp (Expr.BinOp (Expr.Subscript _ _ _ _) _ _ _) _ _ _) _ _ _ _ _ _); refine toStop ?_))
local macro_rules | `(tactic| walk_at "subscriptTail Name Slice ref ref") => `(tactic| (k_here; (with_reducible show wpAny _ _ (subscriptTail _ (PySem.Expr.Slice _ _ none _) (Value.ref _) (Value.ref _)) _ _ _); k_dflt (refine' slice_led ?F ?N ?l ?p ?q ?e ?z ?_ ?s ?t; (case F | N => k_asm); (case l => k_mem); (case p | q => kmk_part); (case e => first | exact pick_hd | exact pick_last | exact pick_three (by assumption)); (case z => omega); (case s => with_unfolding_all rfl); (case t => kmk_pure)); intro D' h' F' N' l1; (try k_lt l1); (try k_sweep)))
local macro_rules | `(tactic| walk_at "binaryOp Add ref ref") => `(tactic| (k_here; (with_reducible show wpAny _ _ (binaryOp _ (Value.ref _) (Value.ref _)) _ _ _); k_dflt (refine' add_led ?F ?N ?a ?b ?z ?_; (case F | N => k_asm); (case a | b => k_mem); (case z => ((simp only [List.length_append, List.length_take, List.length_drop]); omega))); intro D' h' F' N' l1; (try k_lt l1); (try k_sweep)))
local macro_rules | `(tactic| walk_at "subscriptTail Name Name ref int") => `(tactic| (k_here; (with_reducible show wpAny _ _ (subscriptTail _ _ (Value.ref _) (Value.int _ _)) _ _ _); (with_unfolding_all refine' sub_at ?k1 ?k2 ?k3 ?k4 ?k5 ?_ ?k6; (case k1 => k_asm); (case k2 => k_mem); (case k3 | k4 => omega); (case k5 => assumption); (case k6 => with_unfolding_all rfl); k_whole)))
local macro_rules | `(tactic| walk_at "subscriptTail Name BinOp ref int") => `(tactic| (k_here; (with_reducible show wpAny _ _ (subscriptTail _ _ (Value.ref _) (Value.int _ _)) _ _ _); (with_unfolding_all refine' sub_at ?k1 ?k2 ?k3 ?k4 ?k5 ?_ ?k6; (case k1 => k_asm); (case k2 => k_mem); (case k3 | k4 => omega); (case k5 => assumption); (case k6 => with_unfolding_all rfl); k_whole)))
local macro_rules | `(tactic| walk_at "call ref") => `(tactic| ((with_reducible show wpAny _ _ (call (Value.ref 35) _) _ _ _); refine toStop ?_))
local macro_rules | `(tactic| walk_at "call type:list") => `(tactic| (k_here; (with_reducible show wpAny _ _ (call (Value.type _) [Value.ref _]) _ _ _); (with_unfolding_all (refine' list_copyK ?k1 ?k2 (led_list ?k3 ?k4) ?_ ?z; (case k1 | k2 | k3 => k_asm); (case k4 => k_mem); (case z => (rw [sizeLine_eq, List.size_toArray]; omega)); k_whole)); intro D' c' h' F' N' l2; (have l1 := l2); (try k_lt l1); (try k_sweep)))
local macro_rules | `(tactic| walk_at "compareOp Eq ref ref") => `(tactic| ((with_reducible show wpAny _ _ (compareOp CmpOp.Eq (Value.ref _) (Value.ref _)) _ _ _); refine toStop ?_))

theorem t1 : PySem.Challenge.rw_xm0813_01.Holds := hd (by
  k_go0
  all_goals try k_fold
  k_steps
  refine Stop.of ?_
  rename_i fa _ _ _ _ _ _ _ _ _ _ _ rw trw _ _ _ _ _ _ w0 w1 _ _ _ rh trh _ _ _ _ _ _ v0 v1 _ _ _ rm trm f0 f1 t0 t1 _ _ z0 z1 a0 a1 a2 D9 _ l9 _ _ _ h9 F9 N9
  refine cutA F9 (by k_asm) fa f0 f1 t0 t1 (1 + rw) (1 + rh) ?_ ?_
  · have hrm : rm = 0 ∨ rm = 1 := by omega
    rcases hrm with rfl | rfl
    · k_steps
      refine Stop.of ?_
      k_dflt (refine' grid_made ?zb ?zf ?zx ?zn ?z1 ?z2 ?z3 ?z4 ?z5 ?z6 ?z7 ?z8 ?z9 ?zt ?zk ?zd ?zu ?_)
      (case zb => k_asm); (case zf => k_asm); (case zx => k_asm); (case zn => k_asm); (case z1 => k_mem); (case z2 => k_mem); (case z3 => k_mem); (case z5 => simp)
      (case z4 => exact comps1 ⟨_, _, _, _, _, _, _, _, _, _, rfl, by k_mem, by k_mem⟩)
      (case z6 => omega); (case z7 => omega); (case z8 => omega); (case z9 => omega); (case zt => k_asm); (case zk => exact rfl); (case zd => ktr_room); (case zu => ktr_units)
      intro g gl ra h' tk' F' N0 hG hap
      obtain ⟨N', hoffg⟩ := led_pick N0 (fa := fa) (by k_mem) hap
      clear N0 hap
      try k_sweep
      try k_fold
      k_steps
      rename_i ro _ lr _ _ _ _ _ _ F5 N5
      exact midA_end rfl F5 N5 lr hoffg hG
    · k_steps
      refine Stop.of ?_
      k_dflt (refine' grid_made ?zb ?zf ?zx ?zn ?z1 ?z2 ?z3 ?z4 ?z5 ?z6 ?z7 ?z8 ?z9 ?zt ?zk ?zd ?zu ?_)
      (case zb => k_asm); (case zf => k_asm); (case zx => k_asm); (case zn => k_asm); (case z1 => k_mem); (case z2 => k_mem); (case z3 => k_mem); (case z5 => simp)
      (case z4 => exact comps2 ⟨_, _, _, _, _, _, _, _, _, _, rfl, by k_mem, by k_mem⟩ ⟨_, _, _, _, _, _, _, _, _, _, rfl, by k_mem, by k_mem⟩)
      (case z6 => omega); (case z7 => omega); (case z8 => omega); (case z9 => omega); (case zt => k_asm); (case zk => exact rfl); (case zd => ktr_room); (case zu => ktr_units)
      intro g gl ra h' tk' F' N0 hG hap
      obtain ⟨N', hoffg⟩ := led_pick N0 (fa := fa) (by k_mem) hap
      clear N0 hap
      try k_sweep
      try k_fold
      k_steps
      rename_i ro _ lr _ _ _ _ _ _ F5 N5
      exact midA_end rfl F5 N5 lr hoffg hG
  · intro s' hM
    obtain ⟨hx, tkx, g, ro, fr, gl, ra, rfl, F, N, hoff, hne, hG⟩ := hM
    k_steps
    rename_i _ tk8 _ _ _ rg8 F8 N8 _
    refine Stop.of ?_
    rename World => w9
    refine' range_inv (n := (1 + rh).toNat) ["x", "number"] (OutR w9.params fa ro g (1 + rw) (1 + rh) ra) ?hh8 rg8 ?sm8 ?sz8 F8 N8 (fun p hp => hp) ?hj8 ?turn8 ?done8
    case hh8 => rfl
    case sm8 => exact small_one (by omega) (by omega) (by omega) (by omega)
    case sz8 => rw [rangeSize_nat]; simp
    case hj8 => exact ⟨f0, f1, t0, t1, [], 0, gl, _, rfl, a0, a1, a2, hoff, hG, ⟨rfl, fun y hy => absurd hy (Nat.not_lt_zero _)⟩, fun _ _ _ => rfl⟩
    case turn8 =>
      intro i t u nx h tk I oI hi hoffI e F N
      obtain ⟨f0, f1, t0, t1, rws, rn, own, G, rfl, b0, b1, b2, hoff, hG, hR, hz⟩ := e
      have hfaI := neN (hoffI _ (.head _))
      have hroI := neN (hoffI _ (.tail _ (.head _)))
      dsimp only at hfaI hroI
      have hoff2 : OwnOff own [fa, ro, I] := fun p hp b hb => by
        simp only [List.mem_cons, List.not_mem_nil, or_false] at hb
        rcases hb with rfl | rfl | rfl
        · exact hoff p hp _ (by simp)
        · exact hoff p hp _ (by simp)
        · exact hoffI p (.tail _ (.tail _ hp))
      clear hoff
      have hrl : rws.length < 100 := by rw [hR.1]; omega
      simp only [Int.zero_add] at F
      try k_fold
      k_steps
      rename_i cur _ lcur _ _ _ _ _ _ rg7 F7 N7 _
      refine Stop.of ?_
      rw [List.push_toArray] at N7
      have hoff4 : OwnOff own [fa, ro, cur, I] := fun p hp b hb => by
        simp only [List.mem_cons, List.not_mem_nil, or_false] at hb
        rcases hb with rfl | rfl | rfl | rfl
        · exact hoff2 p hp _ (by simp)
        · exact hoff2 p hp _ (by simp)
        · exact Nat.ne_of_lt (lt_of_all lcur.2.2.2 p hp)
        · exact hoff2 p hp _ (by simp)
      refine' range_inv (news := (fa, listOf [Value.int f0 t0, .int f1 t1].toArray 0) :: (ro, listOf (rws ++ [Value.ref cur]).toArray (rn + 1)) :: (cur, listOf ([] : List Value).toArray 0) :: (I, oI) :: own) (n := (1 + rw).toNat) ["number"] (InR w9.params fa ro g cur I oI rws (rn + 1) (1 + rw) (1 + rh) ra i) ?hh7 rg7 ?sm7 ?sz7 F7 N7 ?hn7 ?hj7 ?turn7 ?done7
      case hh7 => rfl
      case sm7 => exact small_one (by omega) (by omega) (by omega) (by omega)
      case sz7 => rw [rangeSize_nat]; simp
      case hn7 =>
        intro p hp
        simp only [List.mem_cons] at hp ⊢
        rcases hp with h | h | h | h | h <;> simp [h]
      case hj7 => exact ⟨f0, f1, t0, t1, [], 0, own, G, rfl, b0, b1, b2, hoff4, hG, hR, .nil, fun x _ => hz _ x (Int.le_refl _), fun y x h => hz y x (Int.le_of_lt h)⟩
      case turn7 =>
        clear N7 F7 rg7 b0 b1 b2 hG hR hz hoff4 hoff2 hoffI
        intro k t2 u2 nx h tk I2 oI2 hk hoffI2 e F N
        obtain ⟨f0, f1, t0, t1, ivs, inn, own, G, rfl, b0, b1, b2, hoff4, hG, hR, hI, hz1, hz2⟩ := e
        have c1 := neN (hoffI2 _ (.head _))
        have c2 := neN (hoffI2 _ (.tail _ (.head _)))
        have c3 := neN (hoffI2 _ (.tail _ (.tail _ (.head _))))
        have c4 := neN (hoffI2 _ (.tail _ (.tail _ (.tail _ (.head _)))))
        dsimp only at c1 c2 c3 c4
        have hoff5 : OwnOff own [fa, ro, cur, I, I2] := fun p hp b hb => by
          simp only [List.mem_cons, List.not_mem_nil, or_false] at hb
          rcases hb with rfl | rfl | rfl | rfl | rfl
          · exact hoff4 p hp _ (by simp)
          · exact hoff4 p hp _ (by simp)
          · exact hoff4 p hp _ (by simp)
          · exact hoff4 p hp _ (by simp)
          · exact hoffI2 p (.tail _ (.tail _ (.tail _ (.tail _ hp))))
        clear hoff4
        have hil : ivs.length < 100 := by rw [hI.length]; simp; omega
        obtain ⟨gdd, pl, p0, n1, n2, tm, more, n3, prs, np, ga, gb, _, _, _⟩ := hG.core
        simp only [Int.zero_add] at F
        try k_fold
        k_steps
        · rename_i rowA _ F3 N3 l3
          refine Stop.of ?_
          k_dflt (refine' put1 (own := own) (adr := [rowA, I2, fa, ro, cur, I]) ?zb ?zf ?zx ?zn ?zs hG ?zo ?za ?zr ?zm ?zv ?zy0 ?zy1 ?zx0 ?zx1 ?zy4 ?zx4 ?zt ?zk ?zd ?zu ?_)
          (case zb => k_asm); (case zf => k_asm); (case zx => k_asm); (case zn => k_asm)
          (case zs => (intro p hp; (repeat refine List.mem_cons_of_mem _ ?_); exact hp))
          (case zo => exact off_more hoff5 (lt_of_all l3.2.2.2.2.2))
          (case za => exact adr_in)
          (case zr => exact .head _)
          (case zm => simp)
          (case zv => simp)
          (case zy0 => omega); (case zy1 => omega); (case zx0 => omega); (case zx1 => omega); (case zy4 => omega); (case zx4 => omega)
          (case zt => k_asm); (case zk => exact rfl); (case zd => ktr_room); (case zu => ktr_units)
          intro own' h' tk' F' hG' hoff' hkeep hN
          have N' := put_led hN
          have hoff6 : OwnOff own' [fa, ro, cur, I, I2] := fun p hp b hb => hoff' p hp b (by
            simp only [List.mem_cons, List.not_mem_nil, or_false] at hb ⊢
            rcases hb with h | h | h | h | h <;> simp [h])
          clear hN hoff' hoff5 N3 F3 l3
          try k_sweep
          try k_fold
          k_steps
          rename Fr _ _ _ _ => F3
          rename News _ _ _ _ => N3
          rw [List.push_toArray] at N3
          refine InvEndG.intro F3 N3 ⟨?_, _, _, _, _, _, _, own', _, rfl, by assumption, by assumption, by assumption, fun p hp b hb => hoff6 p hp b (by
            simp only [List.mem_cons, List.not_mem_nil, or_false] at hb ⊢
            rcases hb with h | h | h | h <;> simp [h]), hG', hR.mono (fun p hp hb => hkeep p hp (hb _ (by omega) (by omega))) (fun y hy x => if_neg (by omega)), ints_put hI, putG hz1, fun y x h => (if_neg (by omega)).trans (hz2 y x h)⟩ (by exact ends_new c1 c2 c3 c4 fun p hp => hoff6 p hp I2 (by simp)) (fun p hp => .tail _ hp) (fun p hp => by rw [List.mem_singleton.mp hp]; exact .head _)
          intro z y1 y2
          have y3 : z ≠ Str.ofString "number" := by
            rintro rfl
            exact absurd y2 (by decide)
          simp [y1, y3]
        · rename Fr _ _ _ _ => F3
          rename News _ _ _ _ => N3
          rw [List.push_toArray] at N3
          refine InvEndG.intro F3 N3 ⟨?_, _, _, _, _, _, _, own, _, rfl, by assumption, by assumption, by assumption, fun p hp b hb => hoff5 p hp b (by
            simp only [List.mem_cons, List.not_mem_nil, or_false] at hb ⊢
            rcases hb with h | h | h | h <;> simp [h]), hG, hR, ints_zero hI hz1, fun x hx => hz1 x (by omega), hz2⟩ (by exact ends_same hoffI2 rfl) (fun p hp => .tail _ hp) (fun p hp => by rw [List.mem_singleton.mp hp]; exact .head _)
          intro z y1 y2
          have y3 : z ≠ Str.ofString "number" := by
            rintro rfl
            exact absurd y2 (by decide)
          simp [y1, y3]
      case done7 =>
        clear N7 F7 rg7 b0 b1 b2 hG hR hz hoff4
        intro u2 nx h tk e F N
        obtain ⟨f0, f1, t0, t1, ivs, inn, own, G, rfl, b0, b1, b2, hoff4, hG, hR, hI, hz1, hz2⟩ := e
        k_steps
        have hcur : ∀ b, 0 ≤ b → b < 1 + rh → @Ne Nat cur (ra b) := fun b hb0 hb1 => by
          obtain ⟨_, _, hm, _⟩ := hG.rows b hb0 hb1
          exact (hoff4 _ hm cur (by simp)).symm
        refine InvEndG.intro (nx := (fa, listOf [Value.int f0 t0, .int f1 t1].toArray 0) :: (ro, listOf (rws ++ [Value.ref cur]).toArray (rn + 1)) :: (cur, listOf ivs.toArray inn) :: own) F N ⟨?_, f0, f1, t0, t1, rws ++ [Value.ref cur], rn + 1, (cur, listOf ivs.toArray inn) :: own, G, rfl, b0, b1, b2, ?_, hG.mono fun p hp => .tail _ hp, hR.snoc hI hcur, fun y x h => hz2 y x (by omega)⟩ ?_ ?_ (fun p hp => by rw [List.mem_singleton.mp hp]; exact .tail _ (.tail _ (.tail _ (.head _))))
        · intro z y1 y2
          have y3 : z ≠ Str.ofString "number" := by
            rintro rfl
            exact absurd y2 (by decide)
          have y4 : z ≠ Str.ofString "x" := by
            rintro rfl
            exact absurd y2 (by decide)
          simp [y1, y3, y4]
        · intro p hp b hb
          rcases List.mem_cons.mp hp with rfl | hp
          · simp only [List.mem_cons, List.not_mem_nil, or_false] at hb
            show @Ne Nat cur b
            rcases hb with rfl | rfl
            · exact Nat.ne_of_gt lcur.2.1
            · exact Nat.ne_of_gt lcur.2.2.1
          · exact hoff4 p hp b (by
              simp only [List.mem_cons, List.not_mem_nil, or_false] at hb ⊢
              rcases hb with h | h <;> simp [h])
        · exact ends_new3 hfaI hroI (Nat.ne_of_gt lcur.1) fun p hp => hoff4 p hp I (by simp)
        · intro p hp
          simp only [List.mem_cons] at hp ⊢
          rcases hp with h | h | h | h <;> simp [h]
    case done8 =>
      clear F8 N8 rg8 hoff hG a0 a1 a2
      intro u2 nx h tk e F N
      obtain ⟨f0, f1, t0, t1, rws, rn, own, G, rfl, b0, b1, b2, hoff, hG, hR, hz⟩ := e
      have hrl : rws.length ≤ 4 := by rw [hR.1]; omega
      dsimp only
      k_steps
      refine Stop.of ?_
      refine wpAny_execs_cons ?_
      refine LCg.Assign_ListComp_U (F₀ := by k_asm) (by rfl) (by with_unfolding_all rfl) (by rfl) (by decide) (by rfl) (by decide) (by rfl) (by rfl) (by rfl) ?_
      k_steps
      refine Stop.of ?_
      rename Fr _ _ _ _ => F5
      rename News _ _ _ _ => N5
      refine LCg.CompSrc.ledger (by rfl) F5 N5 (.head _) ?z5 ?_
      case z5 => (rw [sizeLine_eq, List.size_toArray]; simp only [List.length_append, List.length_take, List.length_drop]; omega)
      intro g5
      refine comp_inv (PadInv _ G (1 + rw) (1 + rh)) PadInv.zero ?_ ?_
      · intro j ys nx v I2 oI2 C2 oC2 D2 m2 h2 tk2 E2 hj hinv hP hC hx F3 N3 off3 ne3
        clear F5 N5
        have hv : (padL rws)[j]? = some v := by
          rw [List.getElem?_toArray] at hP
          exact hP
        have hj' : j < (1 + rh).toNat + 2 := by
          rw [List.size_toArray] at hj
          have := pad_length (l := rws) (by rw [hR.1]; omega)
          rw [← hR.1]
          unfold padL at this
          omega
        obtain ⟨r, vs, nn, rfl, hr, hvs⟩ := src_row hR (by omega) hj' hv
        have hr2 : (r, listOf vs.toArray nn) ∈ nx := by
          obtain ⟨rl, rfl, _⟩ := hinv
          refine List.mem_append_right _ ?_
          repeat (first | exact hr | refine List.mem_cons_of_mem _ ?_)
        have hvl : vs.length ≤ 4 := by rw [hvs.length, rowL, List.length_map, List.length_range]; omega
        k_steps
        rename Fr _ _ _ _ => F4
        rename News _ _ _ _ => N4
        rename_i q9 h9 l9
        refine LCg.CompEnd.intro F4 N4 ((q9, _) :: nx) ?_ ⟨⟨Nat.ne_of_gt l9.2.2.2.1, Nat.ne_of_gt l9.2.2.2.2.1, Nat.ne_of_gt l9.2.2.2.2.2.1⟩, off3⟩ ?_ (PadInv.next (nr := 0) hinv (lt_of_all l9.2.2.2.2.2.2) hvs)
        · intro p hp
          rcases List.mem_cons.mp hp with rfl | hp
          · exact .tail _ (.tail _ (.tail _ (.tail _ (.head _))))
          rcases List.mem_cons.mp hp with rfl | hp
          · exact .tail _ (.tail _ (.tail _ (.tail _ (.tail _ (.head _)))))
          rcases List.mem_cons.mp hp with rfl | hp
          · exact .tail _ (.tail _ (.tail _ (.tail _ (.tail _ (.tail _ (.head _))))))
          rcases List.mem_cons.mp hp with rfl | hp
          · exact .head _
          exact .tail _ (.tail _ (.tail _ (.tail _ (.tail _ (.tail _ (.tail _ hp))))))
        · obtain ⟨rl, e, _⟩ := hinv
          refine .inr ⟨listOf _ 0, ?_, rfl, 0, rfl⟩
          rw [e]
          exact .tail _ (List.mem_append_right _ (.head _))
      · intro ys nx hinv D3 h3 tk3 F3 N3 o3'
        obtain ⟨rl, rfl, hyl, hr1, hrr⟩ := hinv
        have o9 := off1_mem o3'
        clear F5 N5 o3'
        obtain ⟨tl, htl⟩ : ∃ tl, tl = rl ++ own := ⟨_, rfl⟩
        have N4 := led_done N3
        obtain ⟨off4, hne4⟩ := off_done (fa := (fa, listOf [Value.int f0 t0, .int f1 t1].toArray 0)) o9 hr1 hoff
        dsimp only at hne4 off4
        rw [← htl] at N4 off4
        have hG4 : GridAt w9.params tl g (1 + rw) (1 + rh) ra G := hG.mono fun p hp => by rw [htl]; exact List.mem_append_right _ hp
        have hrr4 : ∀ j : Nat, j < (1 + rh).toNat + 2 → ∃ (r : Addr) (vs : List Value) (nn : Nat), ys[j]? = some (.ref r) ∧ (r, listOf vs.toArray nn) ∈ tl ∧ IntsAre vs (padL (rowL G (1 + rw) (keptI ((j : Int) - 1) (1 + rh)))) := fun j hj => by
          obtain ⟨r, vs, nn, a, b, c⟩ := hrr j (by
            rw [List.size_toArray]
            have := pad_length (l := rws) (by rw [hR.1]; omega)
            rw [← hR.1] at hj
            unfold padL at this
            omega)
          exact ⟨r, vs, nn, a, by rw [htl]; exact List.mem_append_left _ b, c⟩
        clear N3 hrr hG hoff hR hr1 o9
        dsimp only
        k_steps
        rename_i xx txx _ _ _ _ _ _ x0 x1 _ _ _ yy tyy _ _ _ _ _ _ y0 y1 _ _ _ T6 _ l6 _ _ h6 F6 N6
        refine Stop.of ?_
        have N7 : News _ _ h6 ((T6, _) :: (fa, _) :: (D3, listOf ys.toArray ys.length) :: tl) := N6
        clear N6
        obtain ⟨r1, p1, n1, e1, m1, i1⟩ := hrr4 yy.toNat (by omega)
        obtain ⟨r2, p2, n2, e2, m2, i2⟩ := hrr4 (yy + 1).toNat (by omega)
        obtain ⟨r3, p3, n3, e3, m3, i3⟩ := hrr4 (yy + 2).toNat (by omega)
        rw [show (((yy).toNat : Nat) : Int) = yy from Int.toNat_of_nonneg (by omega)] at i1
        rw [show (((yy + 1).toNat : Nat) : Int) = yy + 1 from Int.toNat_of_nonneg (by omega)] at i2
        rw [show (((yy + 2).toNat : Nat) : Int) = yy + 2 from Int.toNat_of_nonneg (by omega)] at i3
        have g1 := pad_room i1 (by omega) (by omega)
        have g2 := pad_room i2 (by omega) (by omega)
        have g3 := pad_room i3 (by omega) (by omega)
        refine wpAny_execs_cons ?_
        k_steps
        refine Stop.of ?_
        rename Fr _ _ _ _ => F8
        rename News _ _ _ _ => N8
        rename_i du _ _ _ _
        k_dflt (refine' nine ?zb F8 ?zx N8 (hG4.mono ?zs) ?zy0 ?zx0 ?zy4 ?zx4 ?zt ?zk ?zd ?zu ?_)
        (case zb => k_asm)
        (case zx => k_asm)
        (case zs => (intro p hp; (repeat (first | exact hp | refine List.mem_cons_of_mem _ ?_))))
        (case zy0 => omega)
        (case zx0 => omega)
        (case zy4 => omega)
        (case zx4 => omega)
        (case zt => k_asm)
        (case zk => exact rfl)
        (case zd => ktr_room)
        (case zu => ktr_units)
        intro q vs nq h9 tk9 F9 N9 i9
        have hv9 : vs.length = 9 := by rw [i9.length, nineRows_len]
        have hd9 : IntsAre (((p1.drop xx.toNat).take 3 ++ (p2.drop xx.toNat).take 3) ++ (p3.drop xx.toNat).take 3) (nineRows G xx yy (1 + rw) (1 + rh) 3) := by
          rw [← due_nine (by omega) x0 x1]
          exact (((i1.drop _).take 3).append ((i2.drop _).take 3)).append ((i3.drop _).take 3)
        clear N8 F8
        k_steps
        refine Stop.of ?_
        rename News _ _ _ _ => N10
        k_dflt (refine ke_eq_ints (led_list N10 (.head _)) (led_list N10 (.tail _ (.tail _ (.head _)))) i9 hd9 ?_ ?_)
        · ke_room
        · rw [decide_eq_true (rfl : nineRows G xx yy (1 + rw) (1 + rh) 3 = nineRows G xx yy (1 + rw) (1 + rh) 3)]
          k_steps)

end
end Mine
theorem PySem.Challenge.cw_xm0813_01_holds : PySem.Challenge.rw_xm0813_01.Holds :=
  Mine.t1
