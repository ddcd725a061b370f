import PyProof.Rows.All
import Wide.All
import OpenK.AllK
import Wide.FinOn
import PySem.Challenge.RW_no0057_01
open PySem PySem.W PyProof.Rows
set_option Elab.async false
set_option compiler.extract_closed false
set_option maxRecDepth 100000
namespace Mine
set_option maxHeartbeats 8000000 in
open_top hd for PySem.Challenge.rw_no0057_01
abbrev MLed := List (Addr × Obj)
abbrev MVal := Value
abbrev MMap := Str → Option Value

/-- a call of f with the arguments vs, from any def's frame; `news` is what it knows of what has been made, `Ret` what it gives back -/
abbrev Ct (prog : Program) (w : World) (K : Frag) (p : Program) (loose : List Str) (mean : ExcName → Option Value) (mg mb : MMap) (f : Addr) (vs : List Value) (need : Nat) (news : MLed)
    (Ret : Heap → Heap → Addr → MMap → Shared → (Value → Shared → Prop) → Prop) : Prop :=
  ∀ (dp un : Nat) (gd : Option (List Code)) (cn : Str) (cs : Scope) (a : Addr) (ccd : Value) (cl : List (Str × Addr)) (outer : List Env) (A₀ : Around) (base h₀ : Heap) (L : Addr) (m : MMap) (s : Shared) (Q E : Value → Shared → Prop),
    Below A₀ base outer h₀ → Fr h₀ L s.heap m → K.In h₀ → News h₀ L s.heap news → Top p loose mean mg mb h₀ → cs.kind = .function → dp + need < recursionLimit → un + 8 * need + 400 < cLine → Ret base h₀ L m s Q →
      wpAny (model prog w) (ktrTop dp un gd cn cs L a ccd cl outer) (call (.ref f) vs) Q E s

theorem memOf {x : Addr × Obj} {l : List (Addr × Obj)} (h : x ∈ l) : x ∈ l := h
theorem retB {s : Shared} {Q : Value → Shared → Prop} {x y : Bool} (e : x = y) (h : Q (.bool x) s) : Q (.bool y) s := e ▸ h
abbrev tupO (vs : List MVal) : Obj := { cls := .type "tuple", data := .seq vs.toArray }
theorem dv0 {g k : Int} (hg : 0 ≤ g) (hk : 0 < k) : 0 ≤ g.fdiv k := by
  rw [Int.fdiv_eq_ediv_of_nonneg _ (by omega)]; exact Int.ediv_nonneg hg (by omega)
theorem md0 (g : Int) {k : Int} (hk : 0 < k) : 0 ≤ g.fmod k := by
  rw [Int.fmod_eq_emod_of_nonneg _ (by omega)]; exact Int.emod_nonneg _ (by omega)
theorem md1 (g : Int) {k : Int} (hk : 0 < k) : g.fmod k < k := by
  rw [Int.fmod_eq_emod_of_nonneg _ (by omega)]; exact Int.emod_lt_of_pos _ hk
theorem item_listM {prog : Program} {w : World} {A : Around} {E : Value → Shared → Prop} {s : Shared} {value slice : PySem.Expr} {l : Addr} {vs : List Value} {k : Int} {u : Tok} {v : Value} {Q : Value → Shared → Prop}
    (hl : s.heap.IsList l vs.toArray) (h0 : 0 ≤ k) (hhi : k < 2 ^ 63) (hx : vs[k.toNat]? = some v) (h : Q v s)
    (hs : subscripted slice false (.ref l) (.int k u) = operate [.ref l, .int k u] (getItem (.ref l) (.int k u)) := by with_unfolding_all rfl) :
    wpAny (model prog w) A (subscriptTail value slice (.ref l) (.int k u)) Q E s :=
  tail_any hl.typeIs slot_list_getitem.lookup (wpAny_getItem_list hl h0 hhi (by simpa using hx) h) hs
theorem ne_nilM {prog : Program} {w : World} {A : Around} {E : Value → Shared → Prop} {s : Shared} {a b : Addr} {vs us : List Value} {ns ms : List Int} {Q : Value → Shared → Prop} (hl : s.heap.IsList a vs.toArray) (hi : IntsAre vs ns) (hl' : s.heap.IsList b us.toArray) (hi' : IntsAre us ms) (hu : A.units + 64 < cLine)
    (r : Bool) (hr : (!decide (ns = ms)) = r) (h : Q (.bool r) s) : wpAny (model prog w) A (compareOp .NotEq (.ref a) (.ref b)) Q E s :=
  ne_intsK hl hi hl' hi' hu (by rw [hr]; exact h)
/-- a and b differ; folded, so that omega does not split it -/
def NeM (a b : Nat) : Prop := a ≠ b
theorem NeM.ne {a b : Nat} (h : NeM a b) : a ≠ b := h
theorem NeM.en {a b : Nat} (h : NeM a b) : b ≠ a := fun e => h e.symm
theorem NeM.of {a b : Nat} (h : a ≠ b) : NeM a b := h
theorem NeM.symm {a b : Nat} (h : NeM a b) : NeM b a := fun e => h e.symm
section
variable {M : Model} {A : Around} {E : Value → Shared → Prop} {env : Env} {st : Stmt} {rest : List Stmt} {Q : Flow → Shared → Prop} {h : Heap} {g : Array GenState} {d : Drawn} {X : Nat} {o : OsState}
theorem execs_consG (k : ∀ tk : Nat, wpAny M A (exec st env) (fun f s' => match f with | .next => wpAny M A (execs rest env) Q E s' | f => Q f s') E ⟨h, g, d, tk, o⟩) : wpAny M A (execs (st :: rest) env) Q E ⟨h, g, d, X, o⟩ := wpAny_execs_cons (k X)
theorem execs_nilG (k : ∀ tk : Nat, Q .next ⟨h, g, d, tk, o⟩) : wpAny M A (execs [] env) Q E ⟨h, g, d, X, o⟩ := wpAny_execs_nil (k X)
end
local macro_rules | `(tactic| walk_at "subscriptTail") => `(tactic| (k_here; (with_reducible show wpAny _ _ (subscriptTail _ _ (Value.ref _) (Value.str _ _)) _ _ _); k_dflt (refine kda_item (knd := PySem.strKind _ _) (by k_asm) (by k_mem) (by k_asm) (strKind_is _ _ _ _) (by rfl) ?_)))
local macro_rules | `(tactic| walk_at "subscriptTail") => `(tactic| walk_at "ITEM")
local macro_rules | `(tactic| walk_at "setItem ref str") => `(tactic| (k_here; k_dflt (refine' kda_set (knd := PySem.strKind _ _) (by k_asm) (by k_asm) (by k_updF) (by k_asm) (strKind_is _ _ _ _) (by kob_size) ?_); intro _ _ _ N' _; (try kob_lit); (try dsimp only at N')))
local macro_rules | `(tactic| k_room) => `(tactic| ktr_room)
local macro_rules | `(tactic| k_units) => `(tactic| ktr_units)
local macro_rules | `(tactic| k_mem) => `(tactic| (refine memOf ?_; assumption))
local macro_rules | `(tactic| walk_at "ENTERC") => `(tactic| (refine' code_defC ?k1 ?k2 ?k3 ?k4 ?k5 ?kA ?kF ?kK ?k6 ?k7 ?k8 ?k9 ?kB ?kD ?_ ?c2 ?c3 ?c4; (case kA => exact rfl); (case kF => exact rfl); (case kK => assumption); (case k1 => k_asm); (case k2 => k_asm); (case k3 => k_asm); (case k4 => k_asm); (case k5 => k_asm); (case k6 => k_is); (case k7 => k_is); (case k8 => ktr_room); (case k9 => exact BindsTo.of_eq rfl); (case kB => exact rfl); (case kD => decide +kernel); (case c2 => exact rfl); (case c3 => exact rfl); (case c4 => exact rfl); k_whole; intro _ _ _ _ _ _ _ N' Y' B' _ _ l1; (try k_lt l1); k_cells Y'; (try simp only [List.cons_append, List.nil_append] at N'); (try dsimp only); (try k_lift B'); (try k_fold)))
local macro_rules | `(tactic| walk_at "CompSrc") => `(tactic| (k_here; k_dflt (refine LCg.CompSrc.range (by rfl) (by k_asm) (by k_asm) (by assumption) (by first | decide | rfl) (by first | rfl | decide) (by first | size_fits | exact Nat.le_of_ble_eq_true rfl) ?_; intro _; lcg_lit)))
local macro_rules | `(tactic| walk_at "CompRest") => `(tactic| (with_unfolding_all (refine LCg.CompRest.succ ?_; intro _ _ _ _ _ _ _ _ _ _ hv' _ _ _ _ _ _; (obtain ⟨t9', hv9'⟩ := hv'; subst hv9'))))
local macro_rules | `(tactic| walk_at "CompEnd") => `(tactic| (with_unfolding_all refine LCg.CompEnd.intro (by k_asm) (by assumption) _ (fun p hp => hp) (by assumption) (by first | trivial | lcg_src) ?_))
local macro_rules | `(tactic| walk_at "CompRestT") => `(tactic| (with_unfolding_all (refine LCt.CompRestT.succ ?_; intro _ _ _ _ _ _ _ _ _ _ hv' _ _ _ _ _ _; (first | lcg_open hv' | (obtain ⟨t9', hv9'⟩ := hv'; subst hv9')))))
local macro_rules | `(tactic| walk_at "SUB") => `(tactic| first | (intro _ h9; (repeat (first | exact h9 | refine List.Mem.tail _ ?_)); done) | exact List.forall_mem_nil _ | (refine List.forall_mem_cons.mpr ⟨by k_mem, ?_⟩; walk_at "SUB"))
local macro_rules | `(tactic| walk_at "LT") => `(tactic| first | exact kst_ltOf (by assumption) | exact kst_ltOf (And.right (by assumption)))
local macro_rules | `(tactic| units_room) => `(tactic| ktr_units)
local macro_rules | `(tactic| walk_at "INTS") => `(tactic| first | exact IntsAre.nil | exact IntsAre.cons _ _ .nil | exact IntsAre.cons _ _ (.cons _ _ .nil) | exact IntsAre.cons _ _ (.cons _ _ (.cons _ _ .nil)))
local macro_rules | `(tactic| walk_at "compareOp NotEq ref ref") => `(tactic| (k_here; (with_reducible show wpAny _ _ (compareOp CmpOp.NotEq (Value.ref _) (Value.ref _)) _ _ _); k_dflt (first
  | (refine' ne_nilM (by exact News.isList (by k_asm) (by k_mem)) (by walk_at "INTS") (by exact News.isList (by k_asm) (by k_mem)) (by walk_at "INTS") (by ktr_units) true (by first | exact rfl | (simp; done)) ?_)
  | (refine' ne_nilM (by exact News.isList (by k_asm) (by k_mem)) (by walk_at "INTS") (by exact News.isList (by k_asm) (by k_mem)) (by walk_at "INTS") (by ktr_units) false (by first | exact rfl | (simp; done)) ?_))))
local macro_rules | `(tactic| walk_at "subscriptTail Name Constant ref int") => `(tactic| walk_at "ITEM")
local macro_rules | `(tactic| walk_at "ITEM") => `(tactic| (k_here; (with_reducible show wpAny _ _ (subscriptTail _ _ (Value.ref _) (Value.int _ _)) _ _ _); k_dflt (first
  | (refine' item_tupleT (by exact News.isTup (by k_asm) (by k_mem)) (by decide) (by decide) (by rfl) (by rfl) ?_; k_whole)
  | (refine' item_listM (by exact News.isList (by k_asm) (by k_mem)) (by decide) (by decide) (by rfl) ?_; k_whole))))
local macro_rules | `(tactic| walk_at "HK") => `(tactic| first | exact rfl | assumption)
local macro_rules | `(tactic| k_lt $h:ident) => `(tactic| (replace $h := allLt_of $h; simp only [AllLt, and_true] at $h:ident; have hlt9 := $h; (repeat (have hlt8 := And.left hlt9; replace hlt9 := And.right hlt9))))
local macro_rules | `(tactic| k_ne) => `(tactic| first | exact NeM.ne (by assumption) | exact NeM.en (by assumption) | (refine neN ?_; (try dsimp only); first | exact Nat.ne_of_lt (by with_reducible assumption) | exact Nat.ne_of_gt (by with_reducible assumption) | omega))
local macro_rules | `(tactic| ktr_room) => `(tactic| first | decide | ((try simp only [depth_under_make, depth_under_kw, depth_in1, depth_deeper, depth_caller]); first | decide | ((try dsimp only [ktrTop]); omega)))
local macro_rules | `(tactic| ktr_units) => `(tactic| ((try simp only [units_in1, units_deeper, Around.mark_units, units_caller]); (try dsimp only [ktrTop]); (try simp only [cLine_is] at *); omega))
local macro_rules | `(tactic| walk_at "subscriptTail Name Slice ref ref") => `(tactic| (k_here; (with_reducible show wpAny _ _ (subscriptTail _ (PySem.Expr.Slice _ _ none _) (Value.ref _) (Value.ref _)) _ _ _); k_dflt (first
  | (refine' kmk_slice_ints (by k_asm) (by k_asm) (by exact News.isList (by k_asm) (by k_mem)) .none (.int _ _) (by assumption) (by exact kmk_upto (by assumption) (by omega)) (by exact List.length_take ..) ?_ (by with_unfolding_all rfl) (by kmk_pure) (by exact kmk_sz (by assumption) (by rw [sizeLine_eq]; omega)))
  | (refine' kmk_slice_ints (by k_asm) (by k_asm) (by exact News.isList (by k_asm) (by k_mem)) (.int _ _) .none (by assumption) (by exact kmk_from (by assumption) (by omega)) (by exact List.length_drop ..) ?_ (by with_unfolding_all rfl) (by kmk_pure) (by exact kmk_sz (by assumption) (by rw [sizeLine_eq]; omega)))); intro _ _ _ _ _ l1 _ _ _; (try k_lt l1); (try k_sweep)))
local macro_rules | `(tactic| walk_at "execs cons") => `(tactic| (k_here; (with_reducible refine execs_consG (fun tk9' => ?_)); (try dsimp only)))
local macro_rules | `(tactic| walk_at "execs nil") => `(tactic| (k_here; (with_reducible refine execs_nilG (fun tk9' => ?_)); (try dsimp only)))
section
variable {w : World} {p : Program} {loose : List Str} {mean : ExcName → Option Value} {mg mb : MMap}

set_option maxHeartbeats 8000000 in
theorem take_ct (d : Addr) (o : Obj) (rest : MLed) (g mi : Int) (tg tm : Nat) (k : Int) (tk : Nat)
    (hoff : OwnOff rest [d]) (hdo : o.IsDictOf (PySem.strKind PySem.Challenge.rw_no0057_01.row.prog w) [(Str.ofString "great", .int g tg), (Str.ofString "mixed", .int mi tm)])
    (hg : 0 ≤ g) (hm0 : 0 ≤ mi) (hm1 : mi < 2147483647) (hk0 : 0 < k) (hk1 : k ≤ 8) :
    Ct PySem.Challenge.rw_no0057_01.row.prog w (Mine.hd.heap_39 w.params) p loose mean mg mb 108 [.ref d, .int k tk] 1 ((d, o) :: rest) (fun _ h₀ L m s Q =>
      ∀ (o' : Obj) (g' mi' r : Int) (tg' tm' t : Nat) (h' : Heap) (tk' : Nat), Fr h₀ L h' m → News h₀ L h' ((d, o') :: rest) →
        o'.IsDictOf (PySem.strKind PySem.Challenge.rw_no0057_01.row.prog w) [(Str.ofString "great", .int g' tg'), (Str.ofString "mixed", .int mi' tm')] → 0 ≤ g' → 0 ≤ mi' → mi' < 2147483647 → 0 ≤ r → r < k → Q (.int r t) { s with heap := h', toks := tk' }) := by
  w_top off
  k_fill
  intro dp un gd cn cs a ccd cl outer A₀ base h₀ L m s Q E B F X N T hk hd hu hret
  refine wpAny_call ?_
  k_dflt cell_enter
  k_steps
  all_goals (
    refine hret _ _ _ _ _ _ _ _ _ (by k_asm) (kst_newsOf (by assumption) (by intro p9 h9; first | exact h9 | exact List.Mem.tail _ h9)) (by assumption) ?_ ?_ ?_ ?_ ?_
      <;> first | assumption | exact dv0 hg hk0 | exact md0 _ hk0 | exact md1 _ hk0 | exact md0 _ (by decide) | exact md1 _ (by decide))
end
section
variable {w : World} {p : Program} {loose : List Str} {mean : ExcName → Option Value} {mg mb : MMap}
theorem offOf {d : Addr} {pre post : MLed} (a : ∀ p ∈ pre, p.1 ≠ d) (b : ∀ p ∈ post, p.1 ≠ d) : OwnOff (pre ++ post) [d] := by
  intro p hp x hx
  rw [List.mem_singleton.mp hx]
  exact (List.mem_append.mp hp).elim (a p) (b p)
theorem newsMid {h₀ h : Heap} {L d : Addr} {o : Obj} {pre post : MLed} (N : News h₀ L h (pre ++ (d, o) :: post)) : News h₀ L h ((d, o) :: (pre ++ post)) := by
  intro p hp
  refine N p ?_
  simp only [List.mem_append, List.mem_cons] at hp ⊢
  rcases hp with h | h | h
  · exact .inr (.inl h)
  · exact .inl h
  · exact .inr (.inr h)
theorem newsMid' {h₀ h : Heap} {L d : Addr} {o : Obj} {pre post : MLed} (N : News h₀ L h ((d, o) :: (pre ++ post))) : News h₀ L h (pre ++ (d, o) :: post) := by
  intro p hp
  refine N p ?_
  simp only [List.mem_append, List.mem_cons] at hp ⊢
  rcases hp with h | h | h
  · exact .inr (.inl h)
  · exact .inl h
  · exact .inr (.inr h)
theorem take_use {dp un : Nat} {gd : Option (List Code)} {cn : Str} {cs : Scope} {a : Addr} {ccd : Value} {cl : List (Str × Addr)} {outer : List Env} {A₀ : Around} {base h₀ : Heap} {L : Addr} {m : MMap} {s : Shared} {Q E : Value → Shared → Prop}
    {d : Addr} {o : Obj} {news : MLed} {nf : Obj → MLed} {g mi : Int} {tg tm : Nat} {k : Int} {tk : Nat}
    (B : Below A₀ base outer h₀) (F : Fr h₀ L s.heap m) (X : (Mine.hd.heap_39 w.params).In h₀) (N : News h₀ L s.heap news) (T : Top p loose mean mg mb h₀) (hk : cs.kind = .function) (hd : dp + 1 < recursionLimit) (hu : un + 8 * 1 + 400 < cLine)
    (U : UpdF d o news nf) (hdo : o.IsDictOf (PySem.strKind PySem.Challenge.rw_no0057_01.row.prog w) [(Str.ofString "great", .int g tg), (Str.ofString "mixed", .int mi tm)])
    (hg : 0 ≤ g) (hm0 : 0 ≤ mi) (hm1 : mi < 2147483647) (hk0 : 0 < k) (hk1 : k ≤ 8)
    (ret : ∀ (o' : Obj) (g' mi' r : Int) (tg' tm' t : Nat) (h' : Heap) (tk' : Nat), Fr h₀ L h' m → News h₀ L h' (nf o') →
        o'.IsDictOf (PySem.strKind PySem.Challenge.rw_no0057_01.row.prog w) [(Str.ofString "great", .int g' tg'), (Str.ofString "mixed", .int mi' tm')] → 0 ≤ g' → 0 ≤ mi' → mi' < 2147483647 → 0 ≤ r → r < k → Q (.int r t) { s with heap := h', toks := tk' }) :
    wpAny (model PySem.Challenge.rw_no0057_01.row.prog w) (ktrTop dp un gd cn cs L a ccd cl outer) (call (.ref 108) [.ref d, .int k tk]) Q E s := by
  obtain ⟨pre, post, rfl, hnf, h1, h2⟩ := U.split
  refine take_ct d o (pre ++ post) g mi tg tm k tk (offOf h1 h2) hdo hg hm0 hm1 hk0 hk1 dp un gd cn cs a ccd cl outer A₀ base h₀ L m s Q E B F X (newsMid N) T hk hd hu ?_
  intro o' g' mi' r tg' tm' t h' tk' F' N'
  exact ret o' g' mi' r tg' tm' t h' tk' F' (hnf o' ▸ newsMid' N')
end
section
variable {w : World} {p : Program} {loose : List Str} {mean : ExcName → Option Value} {mg mb : MMap}
def cfit (b0 b1 b2 a0 a1 a2 z0 z1 s0 s1 : Int) : Bool :=
  decide (0 ≤ a0 - b0 ∧ 0 ≤ a1 - b1 ∧ 0 ≤ a2 - b2 ∧ z0 ≤ (a0 - b0) + (a2 - b2) ∧ z1 ≤ (a1 - b1) + (a2 - b2) ∧ z0 + z1 ≤ (a0 - b0) + (a1 - b1) + (a2 - b2) ∧ a0 ≤ s0 ∧ a1 ≤ s1 ∧ a0 + a1 + a2 ≤ s0 + s1)

set_option maxHeartbeats 8000000 in
theorem cfit_ct (news : MLed) (b a z s : Addr) (b0 b1 b2 a0 a1 a2 z0 z1 s0 s1 : Int) (t0 t1 t2 t3 t4 t5 t6 t7 t8 t9 : Nat)
    (hb : (b, tupO [.int b0 t0, .int b1 t1, .int b2 t2]) ∈ news) (ha : (a, tupO [.int a0 t3, .int a1 t4, .int a2 t5]) ∈ news) (hz : (z, tupO [.int z0 t6, .int z1 t7]) ∈ news) (hs : (s, tupO [.int s0 t8, .int s1 t9]) ∈ news) :
    Ct PySem.Challenge.rw_no0057_01.row.prog w (Mine.hd.heap_39 w.params) p loose mean mg mb 19 [.ref b, .ref a, .ref z, .ref s] 2 news (fun _ h₀ L m s Q =>
      ∀ (h' : Heap) (tk' : Nat), Fr h₀ L h' m → News h₀ L h' news → Q (.bool (cfit b0 b1 b2 a0 a1 a2 z0 z1 s0 s1)) { s with heap := h', toks := tk' }) := by
  w_top off
  k_fill
  intro dp un gd cn cs a ccd cl outer A₀ base h₀ L m s Q E B F X N T hk hd hu hret
  refine wpAny_call ?_
  k_dflt (walk_at "ENTERC")
  k_steps
  all_goals (
    refine retB ?_ (hret _ _ (by k_asm) (kst_newsOf (by assumption) (by walk_at "SUB")))
    unfold cfit
    first | (rw [decide_eq_false_iff_not]; omega) | (rw [decide_eq_decide]; omega))
end
section
variable {w : World} {p : Program} {loose : List Str} {mean : ExcName → Option Value} {mg mb : MMap}
set_option maxHeartbeats 8000000 in
theorem cfitN_ct (news : MLed) (b z s : Addr) (z0 z1 : Int) (t6 t7 : Nat)
    (hz : (z, tupO [.int z0 t6, .int z1 t7]) ∈ news) :
    Ct PySem.Challenge.rw_no0057_01.row.prog w (Mine.hd.heap_39 w.params) p loose mean mg mb 19 [.ref b, .none, .ref z, .ref s] 2 news (fun _ h₀ L m s Q =>
      ∀ (h' : Heap) (tk' : Nat), Fr h₀ L h' m → News h₀ L h' news → Q (.bool (decide (z0 + z1 = 0))) { s with heap := h', toks := tk' }) := by
  w_top off
  k_fill
  intro dp un gd cn cs a ccd cl outer A₀ base h₀ L m s Q E B F X N T hk hd hu hret
  refine wpAny_call ?_
  k_dflt (walk_at "ENTERC")
  k_steps
  all_goals exact hret _ _ (by k_asm) (kst_newsOf (by assumption) (by walk_at "SUB"))
end
def lfitB (b0 b1 b2 a0 a1 a2 z s : Int) : Bool := decide (0 ≤ a0 - b0 ∧ 0 ≤ a1 - b1 ∧ 0 ≤ a2 - b2 ∧ z ≤ (a0 - b0) + (a2 - b2) ∧ a0 ≤ s ∧ a1 = 0 ∧ a0 + a1 + a2 ≤ s)
section
variable {w : World} {p : Program} {loose : List Str} {mean : ExcName → Option Value} {mg mb : MMap}
set_option maxHeartbeats 8000000 in
theorem lfitN_ct (news : MLed) (b : Addr) (z s : Int) (t6 t7 : Nat) :
    Ct PySem.Challenge.rw_no0057_01.row.prog w (Mine.hd.heap_39 w.params) p loose mean mg mb 118 [.ref b, .none, .int z t6, .int s t7] 2 news (fun _ h₀ L m s Q =>
      ∀ (h' : Heap) (tk' : Nat), Fr h₀ L h' m → News h₀ L h' news → Q (.bool (decide (z = 0))) { s with heap := h', toks := tk' }) := by
  w_top off
  k_fill
  intro dp un gd cn cs a ccd cl outer A₀ base h₀ L m s Q E B F X N T hk hd hu hret
  refine wpAny_call ?_
  k_dflt (walk_at "ENTERC")
  k_steps
  all_goals exact hret _ _ (by k_asm) (kst_newsOf (by assumption) (by walk_at "SUB"))

set_option maxHeartbeats 8000000 in
theorem lfit_ct (news : MLed) (b a : Addr) (b0 b1 b2 a0 a1 a2 z s : Int) (t0 t1 t2 t3 t4 t5 t6 t7 : Nat)
    (hb : (b, tupO [.int b0 t0, .int b1 t1, .int b2 t2]) ∈ news) (ha : (a, tupO [.int a0 t3, .int a1 t4, .int a2 t5]) ∈ news) :
    Ct PySem.Challenge.rw_no0057_01.row.prog w (Mine.hd.heap_39 w.params) p loose mean mg mb 118 [.ref b, .ref a, .int z t6, .int s t7] 2 news (fun _ h₀ L m s' Q =>
      ∀ (h' : Heap) (tk' : Nat), Fr h₀ L h' m → News h₀ L h' news →
        Q (.bool (lfitB b0 b1 b2 a0 a1 a2 z s)) { s' with heap := h', toks := tk' }) := by
  w_top off
  k_fill
  intro dp un gd cn cs a ccd cl outer A₀ base h₀ L m s Q E B F X N T hk hd hu hret
  refine wpAny_call ?_
  k_dflt (walk_at "ENTERC")
  k_steps
  all_goals (
    refine retB ?_ (hret _ _ (by k_asm) (kst_newsOf (by assumption) (by walk_at "SUB")))
    unfold lfitB
    first | (rw [decide_eq_false_iff_not]; omega) | (rw [decide_eq_decide]; omega) | (rw [show ∀ x : Int, (x == 0) = decide (x = 0) from fun _ => rfl, decide_eq_decide]; omega))

theorem lfitN_use {dp un : Nat} {gd : Option (List Code)} {cn : Str} {cs : Scope} {a : Addr} {ccd : Value} {cl : List (Str × Addr)} {outer : List Env} {A₀ : Around} {base h₀ : Heap} {L : Addr} {m : MMap} {s : Shared} {Q E : Value → Shared → Prop}
    {news : MLed} {b : Addr} {z t : Int} {t6 t7 : Nat}
    (B : Below A₀ base outer h₀) (F : Fr h₀ L s.heap m) (X : (Mine.hd.heap_39 w.params).In h₀) (N : News h₀ L s.heap news) (T : Top p loose mean mg mb h₀) (hk : cs.kind = .function) (hd : dp + 2 < recursionLimit) (hu : un + 8 * 2 + 400 < cLine)
    (ret : ∀ (h' : Heap) (tk' : Nat), Fr h₀ L h' m → News h₀ L h' news → Q (.bool (decide (z = 0))) { s with heap := h', toks := tk' }) :
    wpAny (model PySem.Challenge.rw_no0057_01.row.prog w) (ktrTop dp un gd cn cs L a ccd cl outer) (call (.ref 118) [.ref b, .none, .int z t6, .int t t7]) Q E s :=
  lfitN_ct news b z t t6 t7 dp un gd cn cs a ccd cl outer A₀ base h₀ L m s Q E B F X N T hk hd hu ret
theorem lfit_use {dp un : Nat} {gd : Option (List Code)} {cn : Str} {cs : Scope} {a : Addr} {ccd : Value} {cl : List (Str × Addr)} {outer : List Env} {A₀ : Around} {base h₀ : Heap} {L : Addr} {m : MMap} {s : Shared} {Q E : Value → Shared → Prop}
    {news : MLed} {b c : Addr} {b0 b1 b2 a0 a1 a2 z t : Int} {t0 t1 t2 t3 t4 t5 t6 t7 : Nat}
    (B : Below A₀ base outer h₀) (F : Fr h₀ L s.heap m) (X : (Mine.hd.heap_39 w.params).In h₀) (N : News h₀ L s.heap news) (T : Top p loose mean mg mb h₀) (hk : cs.kind = .function) (hd : dp + 2 < recursionLimit) (hu : un + 8 * 2 + 400 < cLine)
    (hb : (b, tupO [.int b0 t0, .int b1 t1, .int b2 t2]) ∈ news) (hc : (c, tupO [.int a0 t3, .int a1 t4, .int a2 t5]) ∈ news)
    (ret : ∀ (h' : Heap) (tk' : Nat), Fr h₀ L h' m → News h₀ L h' news → Q (.bool (lfitB b0 b1 b2 a0 a1 a2 z t)) { s with heap := h', toks := tk' }) :
    wpAny (model PySem.Challenge.rw_no0057_01.row.prog w) (ktrTop dp un gd cn cs L a ccd cl outer) (call (.ref 118) [.ref b, .ref c, .int z t6, .int t t7]) Q E s :=
  lfit_ct news b c b0 b1 b2 a0 a1 a2 z t t0 t1 t2 t3 t4 t5 t6 t7 hb hc dp un gd cn cs a ccd cl outer A₀ base h₀ L m s Q E B F X N T hk hd hu ret
theorem cfitN_use {dp un : Nat} {gd : Option (List Code)} {cn : Str} {cs : Scope} {a : Addr} {ccd : Value} {cl : List (Str × Addr)} {outer : List Env} {A₀ : Around} {base h₀ : Heap} {L : Addr} {m : MMap} {s : Shared} {Q E : Value → Shared → Prop}
    {news : MLed} {b e f : Addr} {z0 : Int} {t6 t7 : Nat}
    (B : Below A₀ base outer h₀) (F : Fr h₀ L s.heap m) (X : (Mine.hd.heap_39 w.params).In h₀) (N : News h₀ L s.heap news) (T : Top p loose mean mg mb h₀) (hk : cs.kind = .function) (hd : dp + 2 < recursionLimit) (hu : un + 8 * 2 + 400 < cLine)
    (hz : (e, tupO [.int z0 t6, .int 0 t7]) ∈ news)
    (ret : ∀ (h' : Heap) (tk' : Nat), Fr h₀ L h' m → News h₀ L h' news → Q (.bool (decide (z0 = 0))) { s with heap := h', toks := tk' }) :
    wpAny (model PySem.Challenge.rw_no0057_01.row.prog w) (ktrTop dp un gd cn cs L a ccd cl outer) (call (.ref 19) [.ref b, .none, .ref e, .ref f]) Q E s := by
  refine cfitN_ct news b e f z0 0 t6 t7 hz dp un gd cn cs a ccd cl outer A₀ base h₀ L m s Q E B F X N T hk hd hu ?_
  intro h' tk' F' N'
  rw [Int.add_zero]
  exact ret h' tk' F' N'
theorem cfit_use {dp un : Nat} {gd : Option (List Code)} {cn : Str} {cs : Scope} {a : Addr} {ccd : Value} {cl : List (Str × Addr)} {outer : List Env} {A₀ : Around} {base h₀ : Heap} {L : Addr} {m : MMap} {s : Shared} {Q E : Value → Shared → Prop}
    {news : MLed} {b c e f : Addr} {b0 b1 b2 a0 a1 a2 z0 s0 : Int} {t0 t1 t2 t3 t4 t5 t6 t7 t8 t9 : Nat}
    (B : Below A₀ base outer h₀) (F : Fr h₀ L s.heap m) (X : (Mine.hd.heap_39 w.params).In h₀) (N : News h₀ L s.heap news) (T : Top p loose mean mg mb h₀) (hk : cs.kind = .function) (hd : dp + 2 < recursionLimit) (hu : un + 8 * 2 + 400 < cLine)
    (hb : (b, tupO [.int b0 t0, .int b1 t1, .int b2 t2]) ∈ news) (hc : (c, tupO [.int a0 t3, .int a1 t4, .int a2 t5]) ∈ news) (hz : (e, tupO [.int z0 t6, .int 0 t7]) ∈ news) (hs : (f, tupO [.int s0 t8, .int 0 t9]) ∈ news)
    (hb1 : b1 = 0) (ha1 : 0 ≤ a1)
    (ret : ∀ (h' : Heap) (tk' : Nat), Fr h₀ L h' m → News h₀ L h' news → Q (.bool (lfitB b0 b1 b2 a0 a1 a2 z0 s0)) { s with heap := h', toks := tk' }) :
    wpAny (model PySem.Challenge.rw_no0057_01.row.prog w) (ktrTop dp un gd cn cs L a ccd cl outer) (call (.ref 19) [.ref b, .ref c, .ref e, .ref f]) Q E s := by
  refine cfit_ct news b c e f b0 b1 b2 a0 a1 a2 z0 0 s0 0 t0 t1 t2 t3 t4 t5 t6 t7 t8 t9 hb hc hz hs dp un gd cn cs a ccd cl outer A₀ base h₀ L m s Q E B F X N T hk hd hu ?_
  intro h' tk' F' N'
  refine retB ?_ (ret h' tk' F' N')
  unfold lfitB cfit
  rw [decide_eq_decide]
  omega
end
section
variable {w : World} {p : Program} {loose : List Str} {mean : ExcName → Option Value} {mg mb : MMap}
def bigG (l : List Int) (k : Int) : List Int := if 1000000000 < (if k < 0 then -k else k) then l ++ [if k < 0 then -k else k] else l
theorem bigG_grows : KPfGrows bigG := by
  intro l k
  unfold bigG
  generalize (if k < 0 then -k else k) = a
  by_cases h : 1000000000 < a
  · rw [if_pos h]; simp
  · rw [if_neg h]; omega
theorem bigG_pos : ∀ (ns l : List Int), (∀ x ∈ l, 0 ≤ x) → ∀ x ∈ ns.foldl bigG l, 0 ≤ x
  | [], _, h => h
  | k :: r, l, h => by
    refine bigG_pos r _ ?_
    intro x hx
    unfold bigG at hx
    generalize (if k < 0 then -k else k) = a at hx
    by_cases h1 : 1000000000 < a
    · rw [if_pos h1] at hx
      rcases List.mem_append.mp hx with hx | hx
      · exact h x hx
      · rw [List.mem_singleton.mp hx]; omega
    · rw [if_neg h1] at hx
      exact h x hx
theorem sum_pos : ∀ (l : List Int), (∀ x ∈ l, 0 ≤ x) → 0 ≤ l.sum
  | [], _ => by simp
  | k :: r, h => by
    rw [List.sum_cons]
    have := sum_pos r fun x hx => h x (.tail _ hx)
    have := h k (.head _)
    omega
local macro_rules | `(tactic| walk_at "eval ListComp") => `(tactic| (k_here; lct_look; k_dflt (refine LCt.ListComp_T (F₀ := by k_asm) (by with_unfolding_all rfl) (by decide) (by rfl) (by decide) (by rfl) ?_); k_dflt lct_toSrc))
local macro_rules | `(tactic| walk_at "CompSrcT") => `(tactic| (k_here; k_dflt (refine LCt.CompSrcT.ledger (by rfl) (by k_asm) (by k_asm) (by k_mem) (by first | size_fits | exact Nat.le_of_ble_eq_true rfl) ?_; intro _; (refine' kci_list bigG (by first | assumption | l_ints) (fun _ _ _ _ _ _ _ _ _ _ _ _ _ _ _ _ _ _ _ _ _ _ => ?_) ?_ bigG_grows); kcf_last)))
set_option maxHeartbeats 8000000 in
theorem draws_ct (news : MLed) (l : Addr) (vs : List MVal) (ns : List Int) (hi : IntsAre vs ns) (hlen : ns.length ≤ 63) :
    Ct PySem.Challenge.rw_no0057_01.row.prog w (Mine.hd.heap_39 w.params) p loose mean mg mb 113 [.ref l] 3 news (fun base h₀ L m s Q => base.IsList l vs.toArray ∧
      ∀ (d : Addr) (o : Obj) (g mi : Int) (tg tm : Nat) (h' : Heap) (tk' : Nat), Fr h₀ L h' m → News h₀ L h' ((d, o) :: news) → (∀ p ∈ news, p.1 < d) →
        o.IsDictOf (PySem.strKind PySem.Challenge.rw_no0057_01.row.prog w) [(Str.ofString "great", .int g tg), (Str.ofString "mixed", .int mi tm)] → 0 ≤ g → 0 ≤ mi → mi < 2147483647 → Q (.ref d) { s with heap := h', toks := tk' }) := by
  w_top off
  k_fill
  intro dp un gd cn cs a ccd cl outer A₀ base h₀ L m s Q E B F X N T hk hd hu hret
  obtain ⟨hl, hret⟩ := hret
  refine wpAny_call ?_
  k_with "pyIter ref" => k_state (fun pre m => 0 ≤ m ∧ m < 2147483647) "mixed_here"
  k_dflt cell_enter
  k_steps
  all_goals (
    refine hret _ _ _ _ _ _ _ _ (by k_asm) (kst_newsOf (by assumption) (by walk_at "SUB")) (by walk_at "LT") (by assumption) (sum_pos _ (bigG_pos _ _ (by intro x hx; cases hx))) ?_ ?_ <;> assumption)
end
section
variable {w : World} {p : Program} {loose : List Str} {mean : ExcName → Option Value} {mg mb : MMap}
theorem draws_use {dp un : Nat} {gd : Option (List Code)} {cn : Str} {cs : Scope} {a : Addr} {ccd : Value} {cl : List (Str × Addr)} {outer : List Env} {A₀ : Around} {base h₀ : Heap} {L : Addr} {m : MMap} {s : Shared} {Q E : Value → Shared → Prop}
    {l : Addr} {vs : List MVal} {ns : List Int} {news : MLed}
    (B : Below A₀ base outer h₀) (F : Fr h₀ L s.heap m) (X : (Mine.hd.heap_39 w.params).In h₀) (N : News h₀ L s.heap news) (T : Top p loose mean mg mb h₀) (hk : cs.kind = .function) (hd : dp + 3 < recursionLimit) (hu : un + 8 * 3 + 400 < cLine)
    (hl : base.IsList l vs.toArray) (hi : IntsAre vs ns) (hlen : ns.length ≤ 63)
    (ret : ∀ (d : Addr) (o : Obj) (g mi : Int) (tg tm : Nat) (h' : Heap) (tk' : Nat), Fr h₀ L h' m → News h₀ L h' ((d, o) :: news) → (∀ p ∈ news, p.1 < d) →
        o.IsDictOf (PySem.strKind PySem.Challenge.rw_no0057_01.row.prog w) [(Str.ofString "great", .int g tg), (Str.ofString "mixed", .int mi tm)] → 0 ≤ g → 0 ≤ mi → mi < 2147483647 → Q (.ref d) { s with heap := h', toks := tk' }) :
    wpAny (model PySem.Challenge.rw_no0057_01.row.prog w) (ktrTop dp un gd cn cs L a ccd cl outer) (call (.ref 113) [.ref l]) Q E s :=
  draws_ct news l vs ns hi hlen dp un gd cn cs a ccd cl outer A₀ base h₀ L m s Q E B F X N T hk hd hu ⟨hl, ret⟩
end
local macro_rules | `(tactic| walk_at "call ref") => `(tactic| (k_here; (with_reducible show wpAny _ _ (call (Value.ref 108) [Value.ref _, Value.int _ _]) _ _ _); k_dflt (refine' take_use (by k_asm) (by k_asm) (by k_asm) (by k_asm) (by k_asm) (by walk_at "HK") (by ktr_room) (by ktr_units) (by k_updF) (by k_asm) (by assumption) (by assumption) (by assumption) (by decide) (by decide) ?_); intro _ _ _ _ _ _ _ _ _ _ N' _ _ _ _ _ _; (try dsimp only at N'); (try k_sweep)))
local macro_rules | `(tactic| walk_at "call ref") => `(tactic| (k_here; (with_reducible show wpAny _ _ (call (Value.ref 113) [Value.ref _]) _ _ _); k_dflt (refine' draws_use (by k_asm) (by k_asm) (by k_asm) (by k_asm) (by k_asm) (by walk_at "HK") (by ktr_room) (by ktr_units) (by k_asm) (by k_asm) (by omega) ?_); intro _ _ _ _ _ _ _ _ _ _ l9' _ _ _ _; (try k_lt l9'); (try k_sweep)))
local macro_rules | `(tactic| walk_at "call ref") => `(tactic| (k_here; (with_reducible show wpAny _ _ (call (Value.ref 118) [Value.ref _, Value.none, Value.int _ _, Value.int _ _]) _ _ _); k_dflt (refine' lfitN_use (by k_asm) (by k_asm) (by k_asm) (by k_asm) (by k_asm) (by walk_at "HK") (by ktr_room) (by ktr_units) ?_); intro _ _ _ _; (try k_sweep)))
local macro_rules | `(tactic| walk_at "call ref") => `(tactic| (k_here; (with_reducible show wpAny _ _ (call (Value.ref 118) [Value.ref _, Value.ref _, Value.int _ _, Value.int _ _]) _ _ _); k_dflt (refine' lfit_use (by k_asm) (by k_asm) (by k_asm) (by k_asm) (by k_asm) (by walk_at "HK") (by ktr_room) (by ktr_units) (by k_mem) (by k_mem) ?_); intro _ _ _ _; (try k_sweep)))
local macro_rules | `(tactic| walk_at "call ref") => `(tactic| (k_here; (with_reducible show wpAny _ _ (call (Value.ref 19) [Value.ref _, Value.none, Value.ref _, Value.ref _]) _ _ _); k_dflt (refine' cfitN_use (by k_asm) (by k_asm) (by k_asm) (by k_asm) (by k_asm) (by walk_at "HK") (by ktr_room) (by ktr_units) (by k_mem) ?_); intro _ _ _ _; (try k_sweep)))
local macro_rules | `(tactic| walk_at "call ref") => `(tactic| (k_here; (with_reducible show wpAny _ _ (call (Value.ref 19) [Value.ref _, Value.ref _, Value.ref _, Value.ref _]) _ _ _); k_dflt (refine' cfit_use (by k_asm) (by k_asm) (by k_asm) (by k_asm) (by k_asm) (by walk_at "HK") (by ktr_room) (by ktr_units) (by k_mem) (by k_mem) (by k_mem) (by k_mem) (by first | rfl | omega) (by first | assumption | omega) ?_); intro _ _ _ _; (try k_sweep)))
/-- the dict of the EcnState thing -/
abbrev ecnD (w : World) (k1 k2 k3 k4 k5 : Nat) (v1 v2 v3 v4 v5 : MVal) : Obj :=
  PySem.W.dictOf [{ hash := PyData.keyHash w.params (Str.ofString "trials"), key := .str (Str.ofString "trials") k1, val := v1 }, { hash := PyData.keyHash w.params (Str.ofString "state"), key := .str (Str.ofString "state") k2, val := v2 },
    { hash := PyData.keyHash w.params (Str.ofString "sent"), key := .str (Str.ofString "sent") k3, val := v3 }, { hash := PyData.keyHash w.params (Str.ofString "lost"), key := .str (Str.ofString "lost") k4, val := v4 },
    { hash := PyData.keyHash w.params (Str.ofString "counts"), key := .str (Str.ofString "counts") k5, val := v5 }] 5
abbrev Apart8 (dr wo ec dx aw wc es cc : Nat) : Prop :=
  (NeM dr wo ∧ NeM dr ec ∧ NeM dr dx ∧ NeM dr aw ∧ NeM dr wc ∧ NeM dr es ∧ NeM dr cc) ∧ (NeM wo ec ∧ NeM wo dx ∧ NeM wo aw ∧ NeM wo wc ∧ NeM wo es ∧ NeM wo cc) ∧ (NeM dx ec ∧ NeM dx aw ∧ NeM dx wc ∧ NeM dx es ∧ NeM dx cc)
abbrev stOk (st : Str) : Prop := st = Str.ofString "testing" ∨ st = Str.ofString "waiting" ∨ st = Str.ofString "good" ∨ st = Str.ofString "failed"

/-- what stands between two events: the ledger nx of the law's own things; n bounds the marks that are away -/
def StIn (w : World) (dr wo ec dx : Nat) (n : Nat) (nx : MLed) : Prop :=
  ∃ (oD oW : Obj) (aw wc es cc : Nat) (g mi tr sent lost b0 b1 b2 e0 e1 l2 : Int) (st : Str) (us : List MVal) (marks : List Int) (nn tg tm k1 k2 k3 k4 k5 t1 t2 t3 t4 t5 t6 t7 t8 t9 ta tb tc td te tf : Nat),
    nx = [(dr, oD), (wo, oW), (ec, PySem.W.instObj 62 dx), (dx, ecnD w k1 k2 k3 k4 k5 (.int tr t1) (.str st t2) (.ref es) (.int l2 t3) (.ref cc)), (aw, PySem.W.listOf us.toArray nn),
      (wc, tupO [.int b0 t4, .int b1 t5, .int b2 t6]), (es, tupO [.int e0 t7, .int e1 t8]), (cc, tupO [.int b0 t9, .int b1 ta, .int b2 tb])] ∧
    oD.IsDictOf (PySem.strKind PySem.Challenge.rw_no0057_01.row.prog w) [(Str.ofString "great", .int g tg), (Str.ofString "mixed", .int mi tm)] ∧
    oW.IsDictOf (PySem.strKind PySem.Challenge.rw_no0057_01.row.prog w) [(Str.ofString "trials", .int tr tc), (Str.ofString "state", .str st td), (Str.ofString "away", .ref aw), (Str.ofString "sent", .int sent te), (Str.ofString "lost", .int lost tf), (Str.ofString "counts", .ref wc)] ∧
    (0 ≤ g ∧ 0 ≤ mi ∧ mi < 2147483647) ∧ IntsAre us marks ∧ (∀ x ∈ marks, x = 0 ∨ x = 2) ∧ marks.length ≤ n ∧ stOk st ∧ b1 = 0 ∧ e0 = sent ∧ e1 = 0 ∧ l2 = lost ∧ Apart8 dr wo ec dx aw wc es cc

theorem StIn.opens {w : World} {dr wo ec dx n : Nat} {nx : MLed} {P : Prop} (h : StIn w dr wo ec dx n nx)
    (k : ∀ (oD oW : Obj) (aw wc es cc : Nat) (g mi tr b0 b2 e0 l2 : Int) (st : Str) (us : List MVal) (marks : List Int) (nn tg tm k1 k2 k3 k4 k5 t1 t2 t3 t4 t5 t6 t7 t8 t9 ta tb tc td te tf : Nat),
      nx = [(dr, oD), (wo, oW), (ec, PySem.W.instObj 62 dx), (dx, ecnD w k1 k2 k3 k4 k5 (.int tr t1) (.str st t2) (.ref es) (.int l2 t3) (.ref cc)), (aw, PySem.W.listOf us.toArray nn),
        (wc, tupO [.int b0 t4, .int 0 t5, .int b2 t6]), (es, tupO [.int e0 t7, .int 0 t8]), (cc, tupO [.int b0 t9, .int 0 ta, .int b2 tb])] →
      oD.IsDictOf (PySem.strKind PySem.Challenge.rw_no0057_01.row.prog w) [(Str.ofString "great", .int g tg), (Str.ofString "mixed", .int mi tm)] →
      oW.IsDictOf (PySem.strKind PySem.Challenge.rw_no0057_01.row.prog w) [(Str.ofString "trials", .int tr tc), (Str.ofString "state", .str st td), (Str.ofString "away", .ref aw), (Str.ofString "sent", .int e0 te), (Str.ofString "lost", .int l2 tf), (Str.ofString "counts", .ref wc)] →
      0 ≤ g → 0 ≤ mi → mi < 2147483647 → IntsAre us marks → (∀ x ∈ marks, x = 0 ∨ x = 2) → marks.length ≤ n → stOk st → Apart8 dr wo ec dx aw wc es cc →
      NeM dr wo → NeM dr ec → NeM dr dx → NeM dr aw → NeM dr wc → NeM dr es → NeM dr cc → NeM wo ec → NeM wo dx → NeM wo aw → NeM wo wc → NeM wo es → NeM wo cc → NeM dx ec → NeM dx aw → NeM dx wc → NeM dx es → NeM dx cc → P) : P := by
  obtain ⟨oD, oW, aw, wc, es, cc, g, mi, tr, sent, lost, b0, b1, b2, e0, e1, l2, st, us, marks, nn, tg, tm, k1, k2, k3, k4, k5, t1, t2, t3, t4, t5, t6, t7, t8, t9, ta, tb, tc, td, te, tf, e, hD, hW, ⟨hg, hm0, hm1⟩, hi, hmk, hlen, hso, rfl, rfl, rfl, rfl, ap⟩ := h
  have ap2 := id ap
  obtain ⟨⟨x1, x2, x3, x4, x5, x6, x7⟩, ⟨x8, x9, x10, x11, x12, x13⟩, ⟨x14, x15, x16, x17, x18⟩⟩ := ap
  exact k oD oW aw wc es cc g mi tr b0 b2 e0 l2 st us marks nn tg tm k1 k2 k3 k4 k5 t1 t2 t3 t4 t5 t6 t7 t8 t9 ta tb tc td te tf e hD hW hg hm0 hm1 hi hmk hlen hso ap2 x1 x2 x3 x4 x5 x6 x7 x8 x9 x10 x11 x12 x13 x14 x15 x16 x17 x18

section
variable {w : World}
/-- the end of a walk: the new things are found in the ledger at hand -/
theorem st_end {s : Shared} {h₀ h' : Heap} {L : Addr} {m : MMap} {tk : Nat} {v : MVal} {Q : Value → Shared → Prop} {actual rest : MLed} {dr wo ec dx n : Nat} {oD oW : Obj} {aw wc es cc : Nat} {g mi tr sent lost b0 b1 b2 e0 e1 l2 : Int} {st : Str} {us : List MVal} {marks : List Int} {nn tg tm k1 k2 k3 k4 k5 t1 t2 t3 t4 t5 t6 t7 t8 t9 ta tb tc td te tf : Nat}
    (hret : ∀ (nx' : MLed) (h' : Heap) (tk' : Nat), Fr h₀ L h' m → News h₀ L h' (nx' ++ rest) → StIn w dr wo ec dx n nx' → Q v { s with heap := h', toks := tk' })
    (F : Fr h₀ L h' m) (N : News h₀ L h' actual) (m1 : (wo, oW) ∈ actual)
    (d1 : oW.IsDictOf (PySem.strKind PySem.Challenge.rw_no0057_01.row.prog w) [(Str.ofString "trials", .int tr tc), (Str.ofString "state", .str st td), (Str.ofString "away", .ref aw), (Str.ofString "sent", .int sent te), (Str.ofString "lost", .int lost tf), (Str.ofString "counts", .ref wc)])
    (m2 : (dr, oD) ∈ actual) (d2 : oD.IsDictOf (PySem.strKind PySem.Challenge.rw_no0057_01.row.prog w) [(Str.ofString "great", .int g tg), (Str.ofString "mixed", .int mi tm)])
    (m3 : (ec, PySem.W.instObj 62 dx) ∈ actual) (m4 : (dx, ecnD w k1 k2 k3 k4 k5 (.int tr t1) (.str st t2) (.ref es) (.int l2 t3) (.ref cc)) ∈ actual)
    (m5 : (aw, PySem.W.listOf us.toArray nn) ∈ actual) (m6 : (wc, tupO [.int b0 t4, .int b1 t5, .int b2 t6]) ∈ actual) (m7 : (es, tupO [.int e0 t7, .int e1 t8]) ∈ actual) (m8 : (cc, tupO [.int b0 t9, .int b1 ta, .int b2 tb]) ∈ actual) (m9 : ∀ p ∈ rest, p ∈ actual)
    (hi : IntsAre us marks) (hg : 0 ≤ g ∧ 0 ≤ mi ∧ mi < 2147483647) (hm : ∀ x ∈ marks, x = 0 ∨ x = 2) (hn : marks.length ≤ n) (hs : stOk st) (hb : b1 = 0) (he : e0 = sent) (he1 : e1 = 0) (hl : l2 = lost) (ha : Apart8 dr wo ec dx aw wc es cc) :
    Q v { s with heap := h', toks := tk } := by
  refine hret _ h' tk F (kst_newsOf N ?_) ⟨oD, oW, aw, wc, es, cc, g, mi, tr, sent, lost, b0, b1, b2, e0, e1, l2, st, us, marks, nn, tg, tm, k1, k2, k3, k4, k5, t1, t2, t3, t4, t5, t6, t7, t8, t9, ta, tb, tc, td, te, tf, rfl, d2, d1, hg, hi, hm, hn, hs, hb, he, he1, hl, ha⟩
  intro p hp
  rcases List.mem_append.mp hp with hp | hp
  · simp only [List.mem_cons, List.not_mem_nil, or_false] at hp
    rcases hp with rfl | rfl | rfl | rfl | rfl | rfl | rfl | rfl <;> assumption
  · exact m9 p hp
end
section
variable {prog : Program} {w : World} {A : Around} {E : Value → Shared → Prop} {s : Shared} {env : Env} {st : Stmt} {rest : List Stmt} {Q : Flow → Shared → Prop} {g : Heap} {L : Addr} {m : MMap} {news : MLed}
/-- the end of the choice of counts in _law_ack -/
def CutEnd (g : Heap) (L : Addr) (m : MMap) (news : MLed) (s : Shared) (f : Flow) (s' : Shared) : Prop :=
  f = .next ∧ ∃ (h' : Heap) (tk : Nat) (u : MMap) (cv : MVal) (nx : MLed), s' = { s with heap := h', toks := tk } ∧ Fr g L h' (fun y => if y = Str.ofString "counts" then some cv else if y = Str.ofString "hit" then u y else m y) ∧ News g L h' (nx ++ news) ∧
    ((cv = .none ∧ nx = []) ∨ ∃ (c : Nat) (a0 a1 a2 : Int) (ta tb tc : Nat), cv = .ref c ∧ nx = [(c, tupO [.int a0 ta, .int a1 tb, .int a2 tc])] ∧ 0 ≤ a1 ∧ ∀ p ∈ news, p.1 < c)
theorem cut_fr {h' : Heap} {m₁ : MMap} {cv : MVal} (F : Fr g L h' m₁) (e : m₁ (Str.ofString "counts") = some cv) (hm : ∀ z, z ≠ Str.ofString "counts" → z ≠ Str.ofString "hit" → m₁ z = m z) :
    Fr g L h' (fun y => if y = Str.ofString "counts" then some cv else if y = Str.ofString "hit" then m₁ y else m y) := by
  have q : (fun y => if y = Str.ofString "counts" then some cv else if y = Str.ofString "hit" then m₁ y else m y) = m₁ := by
    funext y
    by_cases h1 : y = Str.ofString "counts"
    · rw [if_pos h1, h1, e]
    · rw [if_neg h1]
      by_cases h2 : y = Str.ofString "hit"
      · rw [if_pos h2]
      · rw [if_neg h2, hm y h1 h2]
  rw [q]; exact F
theorem cutEndN {h' : Heap} {tk : Nat} {m₁ : MMap} {actual : MLed} (F : Fr g L h' m₁) (e : m₁ (Str.ofString "counts") = some .none) (hm : ∀ z, z ≠ Str.ofString "counts" → z ≠ Str.ofString "hit" → m₁ z = m z) (N : News g L h' actual) (hs : ∀ p ∈ news, p ∈ actual) :
    CutEnd g L m news s .next { s with heap := h', toks := tk } := ⟨rfl, h', tk, m₁, .none, [], rfl, cut_fr F e hm, kst_newsOf N hs, .inl ⟨rfl, rfl⟩⟩
theorem cutEndR {h' : Heap} {tk : Nat} {m₁ : MMap} {actual : MLed} {c : Nat} {a0 a1 a2 : Int} {ta tb tc : Nat} (F : Fr g L h' m₁) (e : m₁ (Str.ofString "counts") = some (.ref c)) (hm : ∀ z, z ≠ Str.ofString "counts" → z ≠ Str.ofString "hit" → m₁ z = m z) (N : News g L h' actual)
    (hc : (c, tupO [.int a0 ta, .int a1 tb, .int a2 tc]) ∈ actual) (hs : ∀ p ∈ news, p ∈ actual) (hl : ∀ p ∈ news, p.1 < c) (ha : 0 ≤ a1) :
    CutEnd g L m news s .next { s with heap := h', toks := tk } := ⟨rfl, h', tk, m₁, .ref c, [(c, tupO [.int a0 ta, .int a1 tb, .int a2 tc])], rfl, cut_fr F e hm, kst_newsOf N (List.forall_mem_cons.mpr ⟨hc, hs⟩), .inr ⟨c, a0, a1, a2, ta, tb, tc, rfl, rfl, ha, hl⟩⟩
theorem cut_counts (F : Fr g L s.heap m) (N : News g L s.heap news) (h1 : wpAny (model prog w) A (exec st env) (CutEnd g L m news s) E s)
    (h2 : ∀ (h' : Heap) (tk : Nat) (u : MMap), Fr g L h' (fun y => if y = Str.ofString "counts" then some .none else if y = Str.ofString "hit" then u y else m y) → News g L h' news → wpAny (model prog w) A (execs rest env) Q E { s with heap := h', toks := tk })
    (h3 : ∀ (h' : Heap) (tk : Nat) (u : MMap) (c : Nat) (a0 a1 a2 : Int) (ta tb tc : Nat), Fr g L h' (fun y => if y = Str.ofString "counts" then some (.ref c) else if y = Str.ofString "hit" then u y else m y) → News g L h' ((c, tupO [.int a0 ta, .int a1 tb, .int a2 tc]) :: news) → (∀ p ∈ news, p.1 < c) → 0 ≤ a1 →
      wpAny (model prog w) A (execs rest env) Q E { s with heap := h', toks := tk }) :
    wpAny (model prog w) A (execs (st :: rest) env) Q E s := by
  refine wpAny_execs_cons (wpAny_mono h1 (fun f s' h => ?_) fun _ _ e => e)
  obtain ⟨rfl, h', tk, u, cv, nx, rfl, F', N', h | ⟨c, a0, a1, a2, ta, tb, tc, rfl, rfl, ha, hl⟩⟩ := h
  · obtain ⟨rfl, rfl⟩ := h
    exact h2 h' tk u F' N'
  · exact h3 h' tk u c a0 a1 a2 ta tb tc F' N' hl ha
end
theorem cnt1 {l : List Int} (h : ∀ x ∈ l, x = 0 ∨ x = 2) : l.count 1 = 0 := List.count_eq_zero.mpr fun hm => by have := h _ hm; omega
theorem cnt1_take {l : List Int} {k : Nat} (h : ∀ x ∈ l, x = 0 ∨ x = 2) : (l.take k).count 1 = 0 := cnt1 fun x hx => h x (List.mem_of_mem_take hx)
theorem count1M {prog : Program} {w : World} {A : Around} {E : Value → Shared → Prop} {s : Shared} {l : Addr} {vs : List Value} {ns : List Int} {k : Int} {t : Tok} {Q : Value → Shared → Prop} (hl : s.heap.IsList l vs.toArray) (hi : IntsAre vs ns) (h0 : ns.count k = 0)
    (h : Q (.int 0 s.toks) { s with toks := s.toks + 1 }) : wpAny (model prog w) A (call (.builtin "list.count") [.ref l, .int k t]) Q E s :=
  count_list_ints hl hi (by rw [h0]; exact h)
section
variable {prog : Program} {w : World} {A : Around} {E : Value → Shared → Prop} {s : Shared} {x y : Str} {t u : Nat} {Q : Value → Shared → Prop}
theorem eqS_t (e : x = y) (h : Q (.bool true) s) : wpAny (model prog w) A (compareOp .Eq (.str x t) (.str y u)) Q E s := PyProof.Rows.eq_str (by rw [beq_iff_eq.mpr e]; exact h)
theorem eqS_f (e : x ≠ y) (h : Q (.bool false) s) : wpAny (model prog w) A (compareOp .Eq (.str x t) (.str y u)) Q E s := PyProof.Rows.eq_str (by rw [beq_eq_false_iff_ne.mpr e]; exact h)
theorem neS_f (e : x = y) (h : Q (.bool false) s) : wpAny (model prog w) A (compareOp .NotEq (.str x t) (.str y u)) Q E s := PyProof.Rows.ne_str (by rw [show (x != y) = false by rw [bne, beq_iff_eq.mpr e]; rfl]; exact h)
theorem neS_t (e : x ≠ y) (h : Q (.bool true) s) : wpAny (model prog w) A (compareOp .NotEq (.str x t) (.str y u)) Q E s := PyProof.Rows.ne_str (by rw [show (x != y) = true by rw [bne, beq_eq_false_iff_ne.mpr e]; rfl]; exact h)
theorem eqS_split (h1 : x = y → Q (.bool true) s) (h2 : x ≠ y → Q (.bool false) s) : wpAny (model prog w) A (compareOp .Eq (.str x t) (.str y u)) Q E s := by
  by_cases e : x = y
  · exact eqS_t e (h1 e)
  · exact eqS_f e (h2 e)
theorem neS_split (h1 : x = y → Q (.bool false) s) (h2 : x ≠ y → Q (.bool true) s) : wpAny (model prog w) A (compareOp .NotEq (.str x t) (.str y u)) Q E s := by
  by_cases e : x = y
  · exact neS_f e (h1 e)
  · exact neS_t e (h2 e)
end
theorem lfit_a1 {b0 b1 b2 a0 a1 a2 z s : Int} (h : lfitB b0 b1 b2 a0 a1 a2 z s = true) : a1 = 0 := by
  unfold lfitB at h
  exact (of_decide_eq_true h).2.2.2.2.2.1
theorem drop_ok {l : List Int} (k : Nat) (h : ∀ x ∈ l, x = 0 ∨ x = 2) : ∀ x ∈ l.drop k, x = 0 ∨ x = 2 := fun x hx => h x (List.mem_of_mem_drop hx)
local macro_rules | `(tactic| walk_at "getMethod ref") => `(tactic| (k_here; (with_reducible show wpAny _ _ (getMethod (Value.ref _) (PySem.Str.ofString "count") _) _ _ _); k_dflt (refine' kf_method (by k_asm) (by k_mem) PySem.F.slot_list_count PySem.F.type_list_count ?_)))
local macro_rules | `(tactic| walk_at "call builtin:list.count") => `(tactic| (k_here; (with_reducible show wpAny _ _ (call (Value.builtin _) [Value.ref _, Value.int _ _]) _ _ _); k_dflt (first
  | (refine' count1M (by exact News.isList (by k_asm) (by k_mem)) (by assumption) (by exact cnt1_take (by assumption)) ?_)
  | (refine' count_list_ints (by exact News.isList (by k_asm) (by k_mem)) (by assumption) ?_))))
local macro_rules | `(tactic| walk_at "compareOp Eq str str") => `(tactic| (k_here; (with_reducible show wpAny _ _ (compareOp CmpOp.Eq (Value.str _ _) (Value.str _ _)) _ _ _); first
  | (refine eqS_t ?_ ?_; (focus (first | assumption | rfl)))
  | (refine eqS_f ?_ ?_; (focus (first | assumption | decide)))
  | (refine eqS_split (fun hs9' => ?_) (fun hs9' => ?_))))
local macro_rules | `(tactic| walk_at "compareOp NotEq str str") => `(tactic| (k_here; (with_reducible show wpAny _ _ (compareOp CmpOp.NotEq (Value.str _ _) (Value.str _ _)) _ _ _); first
  | (refine neS_f ?_ ?_; (focus (first | assumption | rfl)))
  | (refine neS_t ?_ ?_; (focus (first | assumption | decide)))
  | (refine neS_split (fun hs9' => ?_) (fun hs9' => ?_))))
local macro_rules | `(tactic| walk_at "APART") => `(tactic| (refine ⟨⟨?_, ?_, ?_, ?_, ?_, ?_, ?_⟩, ⟨?_, ?_, ?_, ?_, ?_, ?_⟩, ⟨?_, ?_, ?_, ?_, ?_⟩⟩ <;> first | assumption | exact NeM.symm (by assumption) | exact NeM.of (by k_ne)))
local macro_rules | `(tactic| walk_at "STOK") => `(tactic| first | assumption | exact Or.inl rfl | exact Or.inr (Or.inl rfl) | exact Or.inr (Or.inr (Or.inl rfl)) | exact Or.inr (Or.inr (Or.inr rfl)))
local macro_rules | `(tactic| walk_at "MARKS") => `(tactic| first | assumption | exact drop_ok _ (by assumption))
section
variable {w : World} {p : Program} {loose : List Str} {mean : ExcName → Option Value} {mg mb : MMap}
local macro_rules | `(tactic| walk_at "execs cons") => `(tactic| (k_here; (with_reducible show wpAny _ _ (execs (Stmt.If (PySem.Expr.Compare (PySem.Expr.Name (Str.ofString "form") _) _ _ _) _ _ _ :: _) _) _ _ _); k_dflt (refine' cut_counts (by k_asm) (by k_asm) ?_ (fun _ _ _ _ _ => ?_) (fun _ _ _ _ _ _ _ _ _ _ _ _ l1 _ => ?_)); (all_goals (try k_lt l1)); (all_goals (try k_fold)); (all_goals (try k_sweep))))
local macro_rules | `(tactic| walk_at "SAME") => `(tactic| (intro _ h1 h2; simp [h1, h2]))
local macro_rules | `(tactic| walk_at "CutEnd") => `(tactic| first
  | exact cutEndN (by k_asm) (by rfl) (by walk_at "SAME") (by k_asm) (by walk_at "SUB")
  | exact cutEndR (by k_asm) (by rfl) (by walk_at "SAME") (by k_asm) (by k_mem) (by walk_at "SUB") (kst_ltOf (by assumption)) (by omega))
set_option maxHeartbeats 8000000 in
theorem ack_ct (dr wo ec dx n : Nat) (nx rest : MLed) (hst : StIn w dr wo ec dx n nx) (hoff : OwnOff rest [dr, wo, dx]) (hn : n ≤ 40) :
    Ct PySem.Challenge.rw_no0057_01.row.prog w (Mine.hd.heap_39 w.params) p loose mean mg mb 125 [.ref wo, .ref ec, .ref dr] 6 (nx ++ rest) (fun _ h₀ L m s Q =>
      ∀ (nx' : MLed) (h' : Heap) (tk' : Nat), Fr h₀ L h' m → News h₀ L h' (nx' ++ rest) → StIn w dr wo ec dx (n + 1) nx' → Q (.bool true) { s with heap := h', toks := tk' }) := by
  w_top off
  k_fill
  intro dp un gd cn cs a ccd cl outer A₀ base h₀ L m s Q E B F X N T hk hd hu hret
  refine hst.opens fun oD oW aw wc es cc g mi tr b0 b2 e0 l2 st us marks nn tg tm k1 k2 k3 k4 k5 t1 t2 t3 t4 t5 t6 t7 t8 t9 ta tb tc td te tf e9 hD hW hg hm0 hm1 hi hmk hlen hso hap x1 x2 x3 x4 x5 x6 x7 x8 x9 x10 x11 x12 x13 x14 x15 x16 x17 x18 => ?_
  subst e9
  simp only [List.cons_append, List.nil_append] at N
  refine wpAny_call ?_
  k_dflt cell_enter
  k_steps
  all_goals (
    refine retB ?_ (st_end hret (by k_asm) (by k_asm) (by k_mem) (by k_asm) (by k_mem) (by k_asm) (by k_mem) (by k_mem) (by k_mem) (by k_mem) (by k_mem) (by k_mem) (by walk_at "SUB") (by assumption) ⟨by assumption, by assumption, by assumption⟩ (by walk_at "MARKS") (by omega) (by walk_at "STOK") (by first | rfl | exact lfit_a1 (by assumption)) (by rfl) (by rfl) (by rfl) (by walk_at "APART"))
    simp)
end
section
variable {w : World} {p : Program} {loose : List Str} {mean : ExcName → Option Value} {mg mb : MMap}
theorem ack_use {dp un : Nat} {gd : Option (List Code)} {cn : Str} {cs : Scope} {a : Addr} {ccd : Value} {cl : List (Str × Addr)} {outer : List Env} {A₀ : Around} {base h₀ : Heap} {L : Addr} {m : MMap} {s : Shared} {Q E : Value → Shared → Prop}
    {actual rest : MLed} {dr wo ec dx n : Nat} {oD oW : Obj} {aw wc es cc : Nat} {g mi tr sent lost b0 b1 b2 e0 e1 l2 : Int} {st : Str} {us : List MVal} {marks : List Int} {nn tg tm k1 k2 k3 k4 k5 t1 t2 t3 t4 t5 t6 t7 t8 t9 ta tb tc td te tf : Nat}
    (B : Below A₀ base outer h₀) (F : Fr h₀ L s.heap m) (X : (Mine.hd.heap_39 w.params).In h₀) (N : News h₀ L s.heap actual) (T : Top p loose mean mg mb h₀) (hk : cs.kind = .function) (hd : dp + 6 < recursionLimit) (hu : un + 8 * 6 + 400 < cLine)
    (hoff : OwnOff rest [dr, wo, dx]) (m1 : (wo, oW) ∈ actual)
    (d1 : oW.IsDictOf (PySem.strKind PySem.Challenge.rw_no0057_01.row.prog w) [(Str.ofString "trials", .int tr tc), (Str.ofString "state", .str st td), (Str.ofString "away", .ref aw), (Str.ofString "sent", .int sent te), (Str.ofString "lost", .int lost tf), (Str.ofString "counts", .ref wc)])
    (m2 : (dr, oD) ∈ actual) (d2 : oD.IsDictOf (PySem.strKind PySem.Challenge.rw_no0057_01.row.prog w) [(Str.ofString "great", .int g tg), (Str.ofString "mixed", .int mi tm)])
    (m3 : (ec, PySem.W.instObj 62 dx) ∈ actual) (m4 : (dx, ecnD w k1 k2 k3 k4 k5 (.int tr t1) (.str st t2) (.ref es) (.int l2 t3) (.ref cc)) ∈ actual)
    (m5 : (aw, PySem.W.listOf us.toArray nn) ∈ actual) (m6 : (wc, tupO [.int b0 t4, .int b1 t5, .int b2 t6]) ∈ actual) (m7 : (es, tupO [.int e0 t7, .int e1 t8]) ∈ actual) (m8 : (cc, tupO [.int b0 t9, .int b1 ta, .int b2 tb]) ∈ actual) (m9 : ∀ p ∈ rest, p ∈ actual)
    (hi : IntsAre us marks) (hg : 0 ≤ g ∧ 0 ≤ mi ∧ mi < 2147483647) (hm : ∀ x ∈ marks, x = 0 ∨ x = 2) (hn : marks.length ≤ n) (hn40 : n ≤ 40) (hs : stOk st) (hb : b1 = 0) (he : e0 = sent) (he1 : e1 = 0) (hl : l2 = lost) (ha : Apart8 dr wo ec dx aw wc es cc)
    (ret : ∀ (nx' : MLed) (h' : Heap) (tk' : Nat), Fr h₀ L h' m → News h₀ L h' (nx' ++ rest) → StIn w dr wo ec dx (n + 1) nx' → Q (.bool true) { s with heap := h', toks := tk' }) :
    wpAny (model PySem.Challenge.rw_no0057_01.row.prog w) (ktrTop dp un gd cn cs L a ccd cl outer) (call (.ref 125) [.ref wo, .ref ec, .ref dr]) Q E s := by
  refine ack_ct dr wo ec dx n _ rest ⟨oD, oW, aw, wc, es, cc, g, mi, tr, sent, lost, b0, b1, b2, e0, e1, l2, st, us, marks, nn, tg, tm, k1, k2, k3, k4, k5, t1, t2, t3, t4, t5, t6, t7, t8, t9, ta, tb, tc, td, te, tf, rfl, d2, d1, hg, hi, hm, hn, hs, hb, he, he1, hl, ha⟩ hoff hn40 dp un gd cn cs a ccd cl outer A₀ base h₀ L m s Q E B F X (kst_newsOf N ?_) T hk hd hu ret
  intro p hp
  rcases List.mem_append.mp hp with hp | hp
  · simp only [List.mem_cons, List.not_mem_nil, or_false] at hp
    rcases hp with rfl | rfl | rfl | rfl | rfl | rfl | rfl | rfl <;> assumption
  · exact m9 p hp
end
local macro_rules | `(tactic| walk_at "call ref") => `(tactic| (k_here; (with_reducible show wpAny _ _ (call (Value.ref 125) [Value.ref _, Value.ref _, Value.ref _]) _ _ _); k_dflt (refine' ack_use (by k_asm) (by k_asm) (by k_asm) (by k_asm) (by k_asm) (by walk_at "HK") (by ktr_room) (by ktr_units) (by assumption) (by k_mem) (by k_asm) (by k_mem) (by k_asm) (by k_mem) (by k_mem) (by k_mem) (by k_mem) (by k_mem) (by k_mem) (by walk_at "SUB") (by assumption) (by exact ⟨by assumption, by assumption, by assumption⟩) (by assumption) (by assumption) (by omega) (by walk_at "STOK") (by rfl) (by rfl) (by rfl) (by rfl) (by walk_at "APART") ?_); intro _ _ _ _ _ _; (try k_sweep)))
section
variable {prog : Program} {w : World} {A : Around} {E : Value → Shared → Prop} {s : Shared} {a b : Int} {t u : Nat} {Q : Value → Shared → Prop}
theorem eqI_lit (r : Bool) (e : (a == b) = r) (h : Q (.bool r) s) : wpAny (model prog w) A (compareOp .Eq (.int a t) (.int b u)) Q E s := PyProof.Rows.eq_int (by rw [e]; exact h)
theorem neI_lit (r : Bool) (e : (a != b) = r) (h : Q (.bool r) s) : wpAny (model prog w) A (compareOp .NotEq (.int a t) (.int b u)) Q E s := PyProof.Rows.ne_int (by rw [e]; exact h)
theorem addIB_t (h : Q (.int (a + 1) s.toks) { s with toks := s.toks + 1 }) : wpAny (model prog w) A (binaryOp .Add (.int a t) (.bool true)) Q E s := add_int_bool (by simpa using h)
theorem addIB_f (h : Q (.int a s.toks) { s with toks := s.toks + 1 }) : wpAny (model prog w) A (binaryOp .Add (.int a t) (.bool false)) Q E s := add_int_bool (by simpa using h)
/-- what on_lost keeps -/
def markG (l : List Int) (k : Int) : List Int := if ([2, 1].any fun x => x == k) = true then l ++ [k] else l
theorem markG_grows : KPfGrows markG := by
  intro l k
  unfold markG
  split
  · simp
  · omega
theorem markG_len : ∀ (ns l : List Int), (∀ x ∈ ns, x = 0 ∨ x = 2) → (ns.foldl markG l).length = l.length + ns.count 2
  | [], _, _ => by simp
  | k :: r, l, h => by
    rw [List.foldl_cons, markG_len r _ fun x hx => h x (.tail _ hx)]
    rcases h k (.head _) with rfl | rfl
    · simp [markG]
    · simp [markG]; omega
theorem markG_in {l : List Int} {k : Int} (h : ([2, 1].any fun x => x == k) = true) : markG l k = l ++ [k] := if_pos h
theorem markG_out {l : List Int} {k : Int} (h : ([2, 1].any fun x => x == k) = false) : markG l k = l := if_neg (by rw [h]; exact Bool.false_ne_true)
theorem app_ok2 {l : List Int} (h : ∀ x ∈ l, x = 0 ∨ x = 2) : ∀ x ∈ l ++ [2], x = 0 ∨ x = 2 := fun x hx => (List.mem_append.mp hx).elim (h x) fun q => .inr (List.mem_singleton.mp q)
theorem app_ok0 {l : List Int} (h : ∀ x ∈ l, x = 0 ∨ x = 2) : ∀ x ∈ l ++ [0], x = 0 ∨ x = 2 := fun x hx => (List.mem_append.mp hx).elim (h x) fun q => .inl (List.mem_singleton.mp q)
theorem app_len {l : List Int} {k : Int} {n : Nat} (h : l.length ≤ n) : (l ++ [k]).length ≤ n + 1 := by rw [List.length_append]; exact Nat.add_le_add_right h 1
theorem le_no2 {a b : Int} (h : a ≤ b + (0 + if ((2 : Int) == 1) = true then 1 else 0)) : a ≤ b := by simpa using h
theorem le_no0 {a b : Int} (h : a ≤ b + (0 + if ((0 : Int) == 1) = true then 1 else 0)) : a ≤ b := by simpa using h
theorem len_markG {D : Addr} {ys : List Value} {l : List Int} {k : Nat} (hl : s.heap.IsList D ys.toArray) (hi : IntsAre ys ((l.take k).foldl markG [])) (hm : ∀ x ∈ l, x = 0 ∨ x = 2) (hfit : l.length ≤ 40)
    (h : Q (.int (((l.take k).count 2 : Nat) : Int) (s.toks + 1)) { s with toks := s.toks + 1 + 1 }) : wpAny (model prog w) A (call (.builtin "len") [.ref D]) Q E s := by
  have e : ys.toArray.size = (l.take k).count 2 := by
    rw [List.size_toArray, hi.length, markG_len _ _ fun x hx => hm x (List.mem_of_mem_take hx)]; simp
  have h1 : (l.take k).count 2 ≤ (l.take k).length := List.count_le_length
  have h2 : (l.take k).length ≤ l.length := by rw [List.length_take]; omega
  exact len_list hl (by rw [e]; omega) (by rw [e]; exact h)
end
section
variable {w : World} {p : Program} {loose : List Str} {mean : ExcName → Option Value} {mg mb : MMap}
local macro_rules | `(tactic| walk_at "compareOp Eq int int") => `(tactic| (k_here; (with_reducible show wpAny _ _ (compareOp CmpOp.Eq (Value.int _ _) (Value.int _ _)) _ _ _); first | refine eqI_lit true (by rfl) ?_ | refine eqI_lit false (by rfl) ?_))
local macro_rules | `(tactic| walk_at "compareOp NotEq int int") => `(tactic| (k_here; (with_reducible show wpAny _ _ (compareOp CmpOp.NotEq (Value.int _ _) (Value.int _ _)) _ _ _); first | refine neI_lit true (by rfl) ?_ | refine neI_lit false (by rfl) ?_))
local macro_rules | `(tactic| walk_at "binaryOp Add int bool") => `(tactic| (k_here; first | (with_reducible refine addIB_t ?_) | (with_reducible refine addIB_f ?_)))
local macro_rules | `(tactic| walk_at "eval ListComp") => `(tactic| (k_here; lct_look; k_dflt (refine LCt.ListComp_T (F₀ := by k_asm) (by with_unfolding_all rfl) (by decide) (by rfl) (by decide) (by rfl) ?_); k_dflt lct_toSrc))
local macro_rules | `(tactic| walk_at "CompSrcT") => `(tactic| (k_here; k_dflt (refine LCt.CompSrcT.ledger (by rfl) (by k_asm) (by k_asm) (by k_mem) (kmk_sz (by assumption) (by rw [sizeLine_eq]; omega)) ?_; intro _; (refine' kci_list markG (by assumption) (fun _ _ _ _ _ _ _ _ _ _ _ _ _ _ _ _ _ _ _ _ _ _ => ?_) ?_ markG_grows); kcf_last)))
local macro_rules | `(tactic| walk_at "call builtin:len") => `(tactic| (k_here; (with_reducible show wpAny _ _ (call (Value.builtin "len") [Value.ref _]) _ _ _); k_dflt (refine' len_markG (by exact News.isList (by k_asm) (by k_mem)) (by assumption) (by assumption) (by omega) ?_)))
local macro_rules | `(tactic| walk_at "CompEnd") => `(tactic| (refine' LCg.CompEnd.intro ?F ?N _ ?sub ?off ?S (kci_el ?e rfl rfl); (case e => exact markG_in (by assumption)); (case F => k_asm); (case N => k_asm); (case off => assumption); (case sub => walk_at "SUB"); (case S => exact Or.inr ⟨_, (by k_mem), rfl, _, rfl⟩)))
local macro_rules | `(tactic| walk_at "CompEnd") => `(tactic| (refine' LCg.CompEnd.intro ?F ?N _ ?sub ?off ?S (kci_no ?e rfl); (case e => exact markG_out (by assumption)); (case F => k_asm); (case N => k_asm); (case off => assumption); (case sub => walk_at "SUB"); (case S => exact Or.inr ⟨_, (by k_mem), rfl, _, rfl⟩)))
local macro_rules | `(tactic| walk_at "MARKS1") => `(tactic| first | assumption | exact drop_ok _ (by assumption) | exact app_ok2 (by assumption) | exact app_ok0 (by assumption))
set_option maxHeartbeats 8000000 in
theorem event_ct (dr wo ec dx n : Nat) (nx rest : MLed) (hst : StIn w dr wo ec dx n nx) (hoff : OwnOff rest [dr, wo, dx]) (hn : n ≤ 30) :
    Ct PySem.Challenge.rw_no0057_01.row.prog w (Mine.hd.heap_39 w.params) p loose mean mg mb 132 [.ref wo, .ref ec, .ref dr] 10 (nx ++ rest) (fun _ h₀ L m s Q =>
      ∀ (nx' : MLed) (h' : Heap) (tk' : Nat), Fr h₀ L h' m → News h₀ L h' (nx' ++ rest) → StIn w dr wo ec dx (n + 1) nx' → Q (.bool true) { s with heap := h', toks := tk' }) := by
  w_top off
  k_fill
  intro dp un gd cn cs a ccd cl outer A₀ base h₀ L m s Q E B F X N T hk hd hu hret
  refine hst.opens fun oD oW aw wc es cc g mi tr b0 b2 e0 l2 st us marks nn tg tm k1 k2 k3 k4 k5 t1 t2 t3 t4 t5 t6 t7 t8 t9 ta tb tc td te tf e9 hD hW hg hm0 hm1 hi hmk hlen hso hap x1 x2 x3 x4 x5 x6 x7 x8 x9 x10 x11 x12 x13 x14 x15 x16 x17 x18 => ?_
  subst e9
  simp only [List.cons_append, List.nil_append] at N
  refine wpAny_call ?_
  k_dflt cell_enter
  k_steps
  all_goals (
    first
      | exact hret _ _ _ (by k_asm) (by k_asm) (by assumption)
      | exact st_end hret (by k_asm) (by k_asm) (by k_mem) (by k_asm) (by k_mem) (by k_asm) (by k_mem) (by k_mem) (by k_mem) (by k_mem) (by k_mem) (by k_mem) (by walk_at "SUB") (by assumption) ⟨by assumption, by assumption, by assumption⟩ (by walk_at "MARKS1") (by first | omega | exact app_len (by assumption)) (by walk_at "STOK") (by rfl) (by rfl) (by rfl) (by rfl) (by walk_at "APART")
      | exact absurd (le_no2 (by assumption)) (by assumption)
      | exact absurd (le_no0 (by assumption)) (by assumption))
end
section
variable {w : World} {p : Program} {loose : List Str} {mean : ExcName → Option Value} {mg mb : MMap}
theorem event_use {dp un : Nat} {gd : Option (List Code)} {cn : Str} {cs : Scope} {a : Addr} {ccd : Value} {cl : List (Str × Addr)} {outer : List Env} {A₀ : Around} {base h₀ : Heap} {L : Addr} {m : MMap} {s : Shared} {Q E : Value → Shared → Prop}
    {dr wo ec dx n : Nat} {nx rest : MLed}
    (B : Below A₀ base outer h₀) (F : Fr h₀ L s.heap m) (X : (Mine.hd.heap_39 w.params).In h₀) (N : News h₀ L s.heap (nx ++ rest)) (T : Top p loose mean mg mb h₀) (hk : cs.kind = .function) (hd : dp + 10 < recursionLimit) (hu : un + 8 * 10 + 400 < cLine)
    (hst : StIn w dr wo ec dx n nx) (hoff : OwnOff rest [dr, wo, dx]) (hn : n ≤ 30)
    (ret : ∀ (nx' : MLed) (h' : Heap) (tk' : Nat), Fr h₀ L h' m → News h₀ L h' (nx' ++ rest) → StIn w dr wo ec dx (n + 1) nx' → Q (.bool true) { s with heap := h', toks := tk' }) :
    wpAny (model PySem.Challenge.rw_no0057_01.row.prog w) (ktrTop dp un gd cn cs L a ccd cl outer) (call (.ref 132) [.ref wo, .ref ec, .ref dr]) Q E s :=
  event_ct dr wo ec dx n nx rest hst hoff hn dp un gd cn cs a ccd cl outer A₀ base h₀ L m s Q E B F X N T hk hd hu ret
theorem dict_nofields {o : Obj} {kvs : List (Str × MVal)} (h : o.IsDictOf (PySem.strKind PySem.Challenge.rw_no0057_01.row.prog w) kvs) : ∀ fs, o.data ≠ .fields fs := by
  obtain ⟨es, ep, _, e, _⟩ := h
  intro fs q
  rw [e] at q
  cases q
theorem StIn.nofields {dr wo ec dx n : Nat} {nx : MLed} (h : StIn w dr wo ec dx n nx) : ∀ q ∈ nx, ∀ fs, q.2.data ≠ .fields fs := by
  refine h.opens fun oD oW aw wc es cc g mi tr b0 b2 e0 l2 st us marks nn tg tm k1 k2 k3 k4 k5 t1 t2 t3 t4 t5 t6 t7 t8 t9 ta tb tc td te tf e9 hD hW hg hm0 hm1 hi hmk hlen hso hap x1 x2 x3 x4 x5 x6 x7 x8 x9 x10 x11 x12 x13 x14 x15 x16 x17 x18 => ?_
  subst e9
  intro q hq
  simp only [List.mem_cons, List.not_mem_nil, or_false] at hq
  rcases hq with rfl | rfl | rfl | rfl | rfl | rfl | rfl | rfl
  · exact dict_nofields hD
  · exact dict_nofields hW
  all_goals (intro fs q; cases q)
theorem StIn.sub {dr wo ec dx n : Nat} {nx : MLed} (h : StIn w dr wo ec dx n nx) : dr ∈ nx.map (·.1) ∧ wo ∈ nx.map (·.1) ∧ dx ∈ nx.map (·.1) := by
  refine h.opens fun oD oW aw wc es cc g mi tr b0 b2 e0 l2 st us marks nn tg tm k1 k2 k3 k4 k5 t1 t2 t3 t4 t5 t6 t7 t8 t9 ta tb tc td te tf e9 hD hW hg hm0 hm1 hi hmk hlen hso hap x1 x2 x3 x4 x5 x6 x7 x8 x9 x10 x11 x12 x13 x14 x15 x16 x17 x18 => ?_
  subst e9
  simp
theorem StIn.off {dr wo ec dx n I : Nat} {oI : Obj} {nx : MLed} (h : StIn w dr wo ec dx n nx) (hI : ∀ q ∈ nx, q.1 ≠ I) : OwnOff [(I, oI)] [dr, wo, dx] := by
  obtain ⟨h1, h2, h3⟩ := h.sub
  have key : ∀ b ∈ nx.map (·.1), I ≠ b := fun b hb e => by
    obtain ⟨q, hq, rfl⟩ := List.mem_map.mp hb
    exact hI q hq e.symm
  intro q hq b hb
  rw [List.mem_singleton.mp hq]
  simp only [List.mem_cons, List.not_mem_nil, or_false] at hb
  rcases hb with rfl | rfl | rfl
  · exact key _ h1
  · exact key _ h2
  · exact key _ h3
end
section
variable {prog : Program} {w : World} {A : Around} {E : Value → Shared → Prop} {s : Shared} {env : Env} {h₀ : Heap} {x : Str} {body : List Stmt} {Q : Flow → Shared → Prop}
/-- where a turn ends -/
def EndJ (h₀ : Heap) (L : Addr) (x : Str) (m₀ : MMap) (J : MLed → Prop) (own : MLed) (s₁ : Shared) (Q : Flow → Shared → Prop) (f : Flow) (s₂ : Shared) : Prop :=
  match f with
  | .ret v => Q (.ret v) s₂
  | .brk => Q .next s₂
  | _ => ∃ (h' : Heap) (tk : Nat) (m' : MMap) (nx : MLed), s₂ = { s₁ with heap := h', toks := tk } ∧ Fr h₀ L h' m' ∧ (∀ z, z ≠ x → m' z = m₀ z) ∧ News h₀ L h' (nx ++ own) ∧ J nx
theorem iter_rangeJ {r : Addr} {a₀ b₀ : Int} {t₀ u₀ v₀ : Tok} {n : Nat} {m₀ : MMap} {news : MLed} (J : Nat → MLed → Prop)
    (hh : A.handled = none) (hr : IsRange s.heap r a₀ b₀ 1 t₀ u₀ v₀) (hsmall : Builtin.Range.small a₀ b₀ 1 = true) (hn : Builtin.Range.rangeSize a₀ b₀ 1 = (n : Int)) (F : Fr h₀ env.locals s.heap m₀) (N : News h₀ env.locals s.heap news) (hj : J 0 news)
    (hK : ∀ i nx, J i nx → ∀ q ∈ nx, ∀ fs, q.2.data ≠ .fields fs)
    (turn : ∀ (i : Nat) (t : Tok) (nx : MLed) (I : Nat) (oI : Obj) (h : Heap) (tk : Nat), i < n → J i nx → (∀ q ∈ nx, q.1 ≠ I) → Fr h₀ env.locals h (fun y => if y = x then some (.int (a₀ + (i : Int)) t) else m₀ y) → News h₀ env.locals h (nx ++ [(I, oI)]) →
      wpAny (model prog w) A (execs body env) (EndJ h₀ env.locals x m₀ (J (i + 1)) [(I, oI)] { s with heap := h, toks := tk } Q) E { s with heap := h, toks := tk })
    (done : ∀ (u : MMap) (nx : MLed) (h : Heap) (tk : Nat), J n nx → Fr h₀ env.locals h (fun y => if y = x then u y else m₀ y) → News h₀ env.locals h nx → Q .next { s with heap := h, toks := tk }) :
    wpAny (model prog w) A (pyIter (.ref r)) (fun it s₂ => LoopAtV prog w A h₀ env x body Q E it s₂) E s := by
  refine wpAny_pyIter_range hr hsmall ?_
  have W : Walks prog w A s.heap.objs.size [s.heap.objs.size] [s.heap.objs.size] n (fun i v => i < n ∧ ∃ t, v = .int (a₀ + i * 1) t)
      (fun i h => IsRangeIter h s.heap.objs.size (a₀ + (i : Nat) * 1) ((n : Int) - (i : Nat)) 1) := (Walks.range hh _ a₀ 1 n).bound
  refine ⟨_, _, _, n, _, _, m₀, news, fun i m₁ nx => (∀ z, z ≠ x → m₁ z = m₀ z) ∧ J i nx, rfl, W, ?_, ?_, ?_, (by show IsRangeIter _ _ _ _ _; rw [hn]; simpa using Heap.get?_push_size _ rfl), F.push _, (fun q hq => ⟨Heap.get?_push_of_some _ (N q hq).1, (N q hq).2⟩), ⟨fun _ _ => rfl, hj⟩, ?_, ?_⟩
  · intro hm
    exact absurd F.ns.lt ((List.mem_singleton.mp hm) ▸ Nat.lt_irrefl _)
  · intro b hb
    rw [List.mem_singleton.mp hb]
    exact next_is_new F
  · intro q hq hI
    exact absurd (Heap.lt_size (N q hq).1) ((List.mem_singleton.mp hI) ▸ Nat.lt_irrefl _)
  · rintro i v m₁ news₁ s₁ own ⟨hh', tk', rfl⟩ hin ⟨_, t, rfl⟩ ⟨hm, hJ⟩ hoff hown hheap hin' hSt F₁ N₁
    have hI₀ : h₀.get? s.heap.objs.size = none := next_is_new F
    obtain ⟨oI, hg, hdat⟩ : ∃ oI : Obj, hh'.get? s.heap.objs.size = some oI ∧ ∃ fs, oI.data = .fields fs := ⟨_, hSt, _, rfl⟩
    have hmem : (s.heap.objs.size, oI) ∈ own := hin' _ (List.mem_singleton.mpr rfl) hI₀ oI hg
    have hall : ∀ q ∈ own, q = (s.heap.objs.size, oI) := fun q hq => by
      have e1 : q.1 = s.heap.objs.size := List.mem_singleton.mp (hown q hq)
      have e2 : hh'.get? q.1 = some q.2 := hheap q hq
      rw [e1, hg] at e2
      exact Prod.ext e1 (Option.some.inj e2).symm
    have em : (fun y => if y = x then some (Value.int (a₀ + (i : Int) * 1) t) else m₁ y) = fun y => if y = x then some (Value.int (a₀ + (i : Int)) t) else m₀ y := by
      funext y
      by_cases h1 : y = x
      · rw [if_pos h1, if_pos h1, Int.mul_one]
      · rw [if_neg h1, if_neg h1, hm y h1]
    rw [em] at F₁
    have N₂ : News h₀ env.locals hh' (news₁ ++ [(s.heap.objs.size, oI)]) := fun q hq => N₁ q ((List.mem_append.mp hq).elim (fun h => List.mem_append.mpr (.inr h)) fun h => List.mem_append.mpr (.inl ((List.mem_singleton.mp h) ▸ hmem)))
    refine wpAny_mono (turn i t news₁ _ oI hh' tk' hin hJ (fun q hq e => hoff q hq (List.mem_singleton.mpr e)) F₁ N₂) (fun f s₂ hp => ?_) fun _ _ e => e
    have fin : (∃ (h' : Heap) (tk : Nat) (m' : MMap) (nx : MLed), s₂ = { s with heap := h', toks := tk } ∧ Fr h₀ env.locals h' m' ∧ (∀ z, z ≠ x → m' z = m₀ z) ∧ News h₀ env.locals h' (nx ++ [(s.heap.objs.size, oI)]) ∧ J (i + 1) nx) →
        LoopStepU h₀ env.locals [s.heap.objs.size] own (fun m₁ nx => (∀ z, z ≠ x → m₁ z = m₀ z) ∧ J (i + 1) nx) { s with heap := hh', toks := tk' } .next s₂ := by
      rintro ⟨h', tk, m', nx, e, F', hm', N', hJ'⟩
      refine ⟨rfl, h', tk, m', nx, e, F', fun q hq => ?_, fun q hq hI => ?_, hm', hJ'⟩
      · rcases List.mem_append.mp hq with hq | hq
        · rw [hall q hq]; exact N' _ (List.mem_append.mpr (.inr (List.mem_singleton.mpr rfl)))
        · exact N' q (List.mem_append.mpr (.inl hq))
      · have e1 : q.1 = s.heap.objs.size := List.mem_singleton.mp hI
        have z1 := (N' q (List.mem_append.mpr (.inl hq))).1
        have z2 : h'.get? s.heap.objs.size = some oI := (N' (s.heap.objs.size, oI) (List.mem_append.mpr (.inr (List.mem_singleton.mpr rfl)))).1
        rw [e1, z2] at z1
        obtain ⟨fs, hfs⟩ := hdat
        exact hK _ _ hJ' q hq fs ((Option.some.inj z1) ▸ hfs)
    cases f with
    | ret v => exact .ret hp
    | brk => exact .brk hp
    | next => exact .next (fin hp)
    | cont => exact .cont (fin hp)
  · rintro h' tk m' news' F' N' _ ⟨hm, hJ⟩
    refine done m' news' h' tk hJ ?_ N'
    have em : (fun y => if y = x then m' y else m₀ y) = m' := by
      funext y
      by_cases h1 : y = x
      · rw [if_pos h1]
      · rw [if_neg h1, hm y h1]
    rw [em]; exact F'
end
section
variable {w : World} {p : Program} {loose : List Str} {mean : ExcName → Option Value} {mg mb : MMap}
theorem event_useX {dp un : Nat} {gd : Option (List Code)} {cn : Str} {cs : Scope} {a : Addr} {ccd : Value} {cl : List (Str × Addr)} {outer : List Env} {A₀ : Around} {base h₀ : Heap} {L : Addr} {m : MMap} {s : Shared} {Q E : Value → Shared → Prop}
    {actual nx rest : MLed} {dr wo ec dx n : Nat}
    (B : Below A₀ base outer h₀) (F : Fr h₀ L s.heap m) (X : (Mine.hd.heap_39 w.params).In h₀) (N : News h₀ L s.heap actual) (T : Top p loose mean mg mb h₀) (hk : cs.kind = .function) (hd : dp + 10 < recursionLimit) (hu : un + 8 * 10 + 400 < cLine)
    (hst : StIn w dr wo ec dx n nx) (hoff : OwnOff rest [dr, wo, dx]) (hn : n ≤ 30) (hs : ∀ q ∈ nx ++ rest, q ∈ actual)
    (ret : ∀ (h' : Heap) (tk' : Nat) (oD oW : Obj) (aw wc es cc : Nat) (tr b0 b2 e0 l2 : Int) (st : Str) (us : List MVal) (nn k1 k2 k3 k4 k5 t1 t2 t3 t4 t5 t6 t7 t8 t9 ta tb tc td te tf : Nat), Fr h₀ L h' m →
      News h₀ L h' ((dr, oD) :: (wo, oW) :: (ec, PySem.W.instObj 62 dx) :: (dx, ecnD w k1 k2 k3 k4 k5 (.int tr t1) (.str st t2) (.ref es) (.int l2 t3) (.ref cc)) :: (aw, PySem.W.listOf us.toArray nn) ::
        (wc, tupO [.int b0 t4, .int 0 t5, .int b2 t6]) :: (es, tupO [.int e0 t7, .int 0 t8]) :: (cc, tupO [.int b0 t9, .int 0 ta, .int b2 tb]) :: rest) →
      StIn w dr wo ec dx (n + 1) [(dr, oD), (wo, oW), (ec, PySem.W.instObj 62 dx), (dx, ecnD w k1 k2 k3 k4 k5 (.int tr t1) (.str st t2) (.ref es) (.int l2 t3) (.ref cc)), (aw, PySem.W.listOf us.toArray nn),
        (wc, tupO [.int b0 t4, .int 0 t5, .int b2 t6]), (es, tupO [.int e0 t7, .int 0 t8]), (cc, tupO [.int b0 t9, .int 0 ta, .int b2 tb])] →
      oW.IsDictOf (PySem.strKind PySem.Challenge.rw_no0057_01.row.prog w) [(Str.ofString "trials", .int tr tc), (Str.ofString "state", .str st td), (Str.ofString "away", .ref aw), (Str.ofString "sent", .int e0 te), (Str.ofString "lost", .int l2 tf), (Str.ofString "counts", .ref wc)] →
      Q (.bool true) { s with heap := h', toks := tk' }) :
    wpAny (model PySem.Challenge.rw_no0057_01.row.prog w) (ktrTop dp un gd cn cs L a ccd cl outer) (call (.ref 132) [.ref wo, .ref ec, .ref dr]) Q E s := by
  refine event_use B F X (kst_newsOf N hs) T hk hd hu hst hoff hn ?_
  intro nx' h' tk' F' N' st9
  refine st9.opens fun oD oW aw wc es cc g mi tr b0 b2 e0 l2 st us marks nn tg tm k1 k2 k3 k4 k5 t1 t2 t3 t4 t5 t6 t7 t8 t9 ta tb tc td te tf e9 hD hW hg hm0 hm1 hi hmk hlen hso hap x1 x2 x3 x4 x5 x6 x7 x8 x9 x10 x11 x12 x13 x14 x15 x16 x17 x18 => ?_
  subst e9
  exact ret h' tk' oD oW aw wc es cc tr b0 b2 e0 l2 st us nn k1 k2 k3 k4 k5 t1 t2 t3 t4 t5 t6 t7 t8 t9 ta tb tc td te tf F' N' st9 hW
theorem endJ {h₀ : Heap} {L : Addr} {x : Str} {m₀ m' : MMap} {J : MLed → Prop} {own nx actual : MLed} {s₁ : Shared} {Q : Flow → Shared → Prop} {h' : Heap} {tk : Nat} (F : Fr h₀ L h' m') (hm : ∀ z, z ≠ x → m' z = m₀ z) (N : News h₀ L h' actual) (hJ : J nx) (sub : ∀ q ∈ nx ++ own, q ∈ actual) :
    EndJ h₀ L x m₀ J own s₁ Q .next { s₁ with heap := h', toks := tk } := ⟨h', tk, m', nx, rfl, F, hm, kst_newsOf N sub, hJ⟩
/-- what the law's loop keeps: the things of the law and the cell of draws -/
def JL (w : World) (dr wo ec dx ca : Nat) (oc : Obj) (i : Nat) (nx : MLed) : Prop := ∃ nx', nx = nx' ++ [(ca, oc)] ∧ StIn w dr wo ec dx i nx'
theorem JL.nofields {dr wo ec dx ca i : Nat} {oc : Obj} {v : Option MVal} {nx : MLed} (hc : oc.data = .cell v) (h : JL w dr wo ec dx ca oc i nx) : ∀ q ∈ nx, ∀ fs, q.2.data ≠ .fields fs := by
  obtain ⟨nx', rfl, st⟩ := h
  intro q hq fs e
  rcases List.mem_append.mp hq with hq | hq
  · exact st.nofields q hq fs e
  · rw [List.mem_singleton.mp hq] at e
    rw [hc] at e; cases e
theorem off2 {I ca dr wo dx : Nat} {oI oc : Obj} (h1 : OwnOff [(I, oI)] [dr, wo, dx]) (h2 : ca ≠ dr) (h3 : ca ≠ wo) (h4 : ca ≠ dx) : OwnOff [(ca, oc), (I, oI)] [dr, wo, dx] := by
  intro q hq b hb
  rcases List.mem_cons.mp hq with rfl | hq
  · simp only [List.mem_cons, List.not_mem_nil, or_false] at hb
    rcases hb with rfl | rfl | rfl <;> assumption
  · exact h1 q hq b hb
end
section
variable {w : World} {A : Around} {E : Value → Shared → Prop} {s : Shared} {env : Env} {h₀ : Heap} {x : Str} {body : List Stmt} {Q : Flow → Shared → Prop}
theorem small13 {b : Int} (h : 0 ≤ b ∧ b ≤ 13) : Builtin.Range.small 0 b 1 = true := small_one (by decide) (by decide) (by omega) (by omega)
theorem law_loop {r L : Addr} {b₀ : Int} {r0 r1 r2 : Tok} {m₀ : MMap} {actual : MLed} {dr wo ec dx ca : Nat} {oD oW oc : Obj} {cv : Option MVal} {aw wc es cc : Nat} {g mi tr sent lost b0 b1 b2 e0 e1 l2 : Int} {st : Str} {us : List MVal} {marks : List Int} {nn tg tm k1 k2 k3 k4 k5 t1 t2 t3 t4 t5 t6 t7 t8 t9 ta tb tc td te tf : Nat}
    (hL : env.locals = L) (hh : A.handled = none) (hr : IsRange s.heap r 0 b₀ 1 r0 r1 r2) (hbb : 0 ≤ b₀ ∧ b₀ ≤ 13) (F : Fr h₀ L s.heap m₀) (N : News h₀ L s.heap actual) (d1 : oW.IsDictOf (PySem.strKind PySem.Challenge.rw_no0057_01.row.prog w) [(Str.ofString "trials", .int tr tc), (Str.ofString "state", .str st td), (Str.ofString "away", .ref aw), (Str.ofString "sent", .int sent te), (Str.ofString "lost", .int lost tf), (Str.ofString "counts", .ref wc)])
    (m1 : (wo, oW) ∈ actual)
    (d2 : oD.IsDictOf (PySem.strKind PySem.Challenge.rw_no0057_01.row.prog w) [(Str.ofString "great", .int g tg), (Str.ofString "mixed", .int mi tm)]) (m2 : (dr, oD) ∈ actual)
    (m3 : (ec, PySem.W.instObj 62 dx) ∈ actual) (m4 : (dx, ecnD w k1 k2 k3 k4 k5 (.int tr t1) (.str st t2) (.ref es) (.int l2 t3) (.ref cc)) ∈ actual)
    (m5 : (aw, PySem.W.listOf us.toArray nn) ∈ actual) (m6 : (wc, tupO [.int b0 t4, .int b1 t5, .int b2 t6]) ∈ actual) (m7 : (es, tupO [.int e0 t7, .int e1 t8]) ∈ actual) (m8 : (cc, tupO [.int b0 t9, .int b1 ta, .int b2 tb]) ∈ actual)
    (dc : oc.data = .cell cv) (mc : (ca, oc) ∈ actual) (hc1 : ca ≠ dr) (hc2 : ca ≠ wo) (hc3 : ca ≠ dx)
    (hi : IntsAre us marks) (hg : 0 ≤ g ∧ 0 ≤ mi ∧ mi < 2147483647) (hm : ∀ x ∈ marks, x = 0 ∨ x = 2) (hn : marks.length ≤ 0) (hs : stOk st) (hb : b1 = 0) (he : e0 = sent) (he1 : e1 = 0) (hl : l2 = lost) (ha : Apart8 dr wo ec dx aw wc es cc)
    (turn : ∀ (i : Nat) (t : Tok) (I : Nat) (oI : Obj) (h : Heap) (tk : Nat) (oD oW : Obj) (aw wc es cc : Nat) (tr b0 b2 e0 l2 : Int) (st : Str) (us : List MVal) (nn k1 k2 k3 k4 k5 t1 t2 t3 t4 t5 t6 t7 t8 t9 ta tb : Nat), i < 13 →
      StIn w dr wo ec dx i [(dr, oD), (wo, oW), (ec, PySem.W.instObj 62 dx), (dx, ecnD w k1 k2 k3 k4 k5 (.int tr t1) (.str st t2) (.ref es) (.int l2 t3) (.ref cc)), (aw, PySem.W.listOf us.toArray nn),
        (wc, tupO [.int b0 t4, .int 0 t5, .int b2 t6]), (es, tupO [.int e0 t7, .int 0 t8]), (cc, tupO [.int b0 t9, .int 0 ta, .int b2 tb])] →
      OwnOff [(ca, oc), (I, oI)] [dr, wo, dx] → Fr h₀ L h (fun y => if y = x then some (.int (i : Int) t) else m₀ y) →
      News h₀ L h [(dr, oD), (wo, oW), (ec, PySem.W.instObj 62 dx), (dx, ecnD w k1 k2 k3 k4 k5 (.int tr t1) (.str st t2) (.ref es) (.int l2 t3) (.ref cc)), (aw, PySem.W.listOf us.toArray nn),
        (wc, tupO [.int b0 t4, .int 0 t5, .int b2 t6]), (es, tupO [.int e0 t7, .int 0 t8]), (cc, tupO [.int b0 t9, .int 0 ta, .int b2 tb]), (ca, oc), (I, oI)] →
      wpAny (model PySem.Challenge.rw_no0057_01.row.prog w) A (execs body env) (EndJ h₀ L x m₀ (JL w dr wo ec dx ca oc (i + 1)) [(I, oI)] { s with heap := h, toks := tk } Q) E { s with heap := h, toks := tk })
    (fin : ∀ (u : MMap) (h : Heap) (tk : Nat) (oD : Obj) (g mi : Int) (tg tm : Nat), Fr h₀ L h (fun y => if y = x then u y else m₀ y) → News h₀ L h [(dr, oD), (ca, oc)] → NeM ca dr →
      oD.IsDictOf (PySem.strKind PySem.Challenge.rw_no0057_01.row.prog w) [(Str.ofString "great", .int g tg), (Str.ofString "mixed", .int mi tm)] → 0 ≤ g → 0 ≤ mi → mi < 2147483647 → Q .next { s with heap := h, toks := tk }) :
    wpAny (model PySem.Challenge.rw_no0057_01.row.prog w) A (pyIter (.ref r)) (fun it s₂ => LoopAtV PySem.Challenge.rw_no0057_01.row.prog w A h₀ env x body Q E it s₂) E s := by
  subst hL
  have st : StIn w dr wo ec dx 0 _ := ⟨oD, oW, aw, wc, es, cc, g, mi, tr, sent, lost, b0, b1, b2, e0, e1, l2, st, us, marks, nn, tg, tm, k1, k2, k3, k4, k5, t1, t2, t3, t4, t5, t6, t7, t8, t9, ta, tb, tc, td, te, tf, rfl, d2, d1, hg, hi, hm, hn, hs, hb, he, he1, hl, ha⟩
  have n1 : Builtin.Range.rangeSize 0 b₀ 1 = ((b₀ - 0).toNat : Int) := rangeSize_nat 0 b₀
  refine iter_rangeJ (JL w dr wo ec dx ca oc) hh hr (small13 hbb) n1 F (kst_newsOf N ?_) ⟨_, rfl, st⟩ (fun i nx hJ => hJ.nofields dc) ?_ ?_
  · intro p hp
    rcases List.mem_append.mp hp with hp | hp
    · simp only [List.mem_cons, List.not_mem_nil, or_false] at hp
      rcases hp with rfl | rfl | rfl | rfl | rfl | rfl | rfl | rfl <;> assumption
    · rw [List.mem_singleton.mp hp]; exact mc
  · rintro i t nx I oI h tk hi' ⟨nx', rfl, st'⟩ hne F' N'
    rw [List.append_assoc] at N'
    rw [Int.zero_add] at F'
    have ho := off2 (oc := oc) (st'.off (oI := oI) fun q hq => hne q (List.mem_append.mpr (.inl hq))) hc1 hc2 hc3
    refine st'.opens fun oD oW aw wc es cc g mi tr b0 b2 e0 l2 st us marks nn tg tm k1 k2 k3 k4 k5 t1 t2 t3 t4 t5 t6 t7 t8 t9 ta tb tc td te tf e9 hD hW hg hm0 hm1 hi hmk hlen hso hap x1 x2 x3 x4 x5 x6 x7 x8 x9 x10 x11 x12 x13 x14 x15 x16 x17 x18 => ?_
    subst e9
    exact turn i t I oI h tk oD oW aw wc es cc tr b0 b2 e0 l2 st us nn k1 k2 k3 k4 k5 t1 t2 t3 t4 t5 t6 t7 t8 t9 ta tb (by omega) st' ho F' N'
  · rintro u nx h tk ⟨nx', rfl, st'⟩ F' N'
    refine st'.opens fun oD oW aw wc es cc g mi tr b0 b2 e0 l2 st us marks nn tg tm k1 k2 k3 k4 k5 t1 t2 t3 t4 t5 t6 t7 t8 t9 ta tb tc td te tf e9 hD hW hg hm0 hm1 hi hmk hlen hso hap x1 x2 x3 x4 x5 x6 x7 x8 x9 x10 x11 x12 x13 x14 x15 x16 x17 x18 => ?_
    subst e9
    refine fin u h tk oD g mi tg tm F' (kst_newsOf N' ?_) (NeM.of hc1) hD hg hm0 hm1
    intro q hq
    simp only [List.mem_cons, List.not_mem_nil, or_false] at hq
    rcases hq with rfl | rfl <;> simp
end
local macro_rules | `(tactic| k_in) => `(tactic| (refine' Frag.In.keeps ?kia (Fr.keep ?kib); (case kib => with_reducible assumption); (case kia => with_reducible assumption)))
local macro_rules | `(tactic| walk_at "SUBS") => `(tactic| ((try simp only [List.cons_append, List.nil_append]); walk_at "SUB"))
local macro_rules | `(tactic| walk_at "call ref") => `(tactic| (k_here; (with_reducible show wpAny _ _ (call (Value.ref 132) [Value.ref _, Value.ref _, Value.ref _]) _ _ _); k_dflt (refine' event_useX (by k_asm) (by k_asm) (by k_asm) (by k_asm) (by k_asm) (by walk_at "HK") (by ktr_room) (by ktr_units) (by assumption) (by assumption) (by omega) (by walk_at "SUBS") ?_); intro _ _ _ _ _ _ _ _ _ _ _ _ _ _ _ _ _ _ _ _ _ _ _ _ _ _ _ _ _ _ _ _ _ _ _ _ _ _ _ _; (try k_sweep)))
local macro_rules | `(tactic| walk_at "EndJ") => `(tactic| exact endJ (by k_asm) (by intro _ h1; simp [h1]) (by k_asm) ⟨_, rfl, by assumption⟩ (by walk_at "SUBS"))
local macro_rules | `(tactic| walk_at "IN13") => `(tactic| (constructor <;> omega))
local macro_rules | `(tactic| walk_at "LOOP13") => `(tactic| (
  k_here
  (with_reducible show wpAny _ _ (pyIter (Value.ref _)) (fun it s₂ => LoopAtV _ _ _ _ _ _ _ _ _ it s₂) _ _)
  k_dflt (
  (refine' law_loop rfl rfl (by assumption) (by walk_at "IN13") (by k_asm) (by k_asm) (by k_asm) (by k_mem) (by k_asm) (by k_mem) (by k_mem) (by k_mem) (by k_mem) (by k_mem) (by k_mem) (by k_mem) (by assumption) (by k_mem) (by k_ne) (by k_ne) (by k_ne) (by exact .nil) (by exact ⟨by assumption, by assumption, by assumption⟩) (by simp) (by exact Nat.le_refl _) (by walk_at "STOK") (by rfl) (by rfl) (by rfl) (by rfl) (by walk_at "APART") ?_ ?_)
  all_goals (intros; (try dsimp only); (try k_sweep); (try k_fold)))))
local macro_rules | `(tactic| walk_at "pyIter ref") => `(tactic| walk_at "LOOP13")
section
variable {prog : Program} {w : World} {A : Around} {E : Value → Shared → Prop} {s : Shared} {h₀ : Heap} {L : Addr} {m : MMap} {env : Env} {elt : PySem.Expr} {x : Str} {scope : Scope} {cl : List (Str × Addr)}
/-- what a turn of the comprehension of marks brings -/
def MkEl (w : World) (nf : Obj → MLed) (y : MVal) (nx : MLed) : Prop :=
  ∃ (o : Obj) (g mi a : Int) (tg tm t : Nat), nx = nf o ∧ o.IsDictOf (PySem.strKind PySem.Challenge.rw_no0057_01.row.prog w) [(Str.ofString "great", .int g tg), (Str.ofString "mixed", .int mi tm)] ∧ 0 ≤ g ∧ 0 ≤ mi ∧ mi < 2147483647 ∧ y = .int a t ∧ 0 ≤ a ∧ a < 4
theorem mkEnd {s₁ : Shared} {I C D : Addr} {oI oC oD : Obj} {S : MLed → Prop} {nf : Obj → MLed} {h' : Heap} {tk : Nat} {all : MLed} {o : Obj} {g mi a : Int} {tg tm t : Nat} (F : Fr h₀ L h' m) (N : News h₀ L h' all)
    (d : o.IsDictOf (PySem.strKind PySem.Challenge.rw_no0057_01.row.prog w) [(Str.ofString "great", .int g tg), (Str.ofString "mixed", .int mi tm)]) (hg : 0 ≤ g) (h1 : 0 ≤ mi) (h2 : mi < 2147483647) (h3 : 0 ≤ a) (h4 : a < 4)
    (off : LCg.Off3 I C D (nf o)) (sub : ∀ p ∈ (I, oI) :: (C, oC) :: (D, oD) :: nf o, p ∈ all) (hS : S (nf o)) :
    LCg.CompEnd h₀ L m s₁ I oI C oC D oD S (MkEl w nf) (.int a t) { s₁ with heap := h', toks := tk } :=
  LCg.CompEnd.intro F N (nf o) sub off hS ⟨o, g, mi, a, tg, tm, t, rfl, d, hg, h1, h2, rfl, h3, h4⟩
theorem marks_rest {P : Nat → MVal → Prop} {Fin : List MVal → MLed → Prop} {S : MLed → Prop} {dr : Addr} {o₀ : Obj} {news : MLed} {nf : Obj → MLed} {n : Nat} {g mi : Int} {tg tm : Nat}
    (d : o₀.IsDictOf (PySem.strKind PySem.Challenge.rw_no0057_01.row.prog w) [(Str.ofString "great", .int g tg), (Str.ofString "mixed", .int mi tm)]) (hm9 : (dr, o₀) ∈ news) (U : UpdF dr o₀ news nf) (hg : 0 ≤ g) (h1 : 0 ≤ mi) (h2 : mi < 2147483647)
    (turn : ∀ (v9 : MVal) (I : Addr) (oI : Obj) (C : Addr) (oC : Obj) (D : Addr) (m₂ : MMap) (ys : List MVal) (h : Heap) (tk : Nat) (E' : Value → Shared → Prop) (o : Obj) (g mi : Int) (tg tm : Nat),
      o.IsDictOf (PySem.strKind PySem.Challenge.rw_no0057_01.row.prog w) [(Str.ofString "great", .int g tg), (Str.ofString "mixed", .int mi tm)] → 0 ≤ g → 0 ≤ mi → mi < 2147483647 →
      LCg.NsObj oC m₂ → Fr h₀ L h m → News h₀ L h ((I, oI) :: (C, oC) :: (D, LCg.lst ys) :: nf o) → LCg.Off3 I C D (nf o) → ((@Ne Nat I C) ∧ (@Ne Nat I D) ∧ (@Ne Nat C D)) →
      wpAny (model prog w) A (eval elt (compEnvC scope cl C env)) (LCg.CompEnd h₀ L m { s with heap := h, toks := tk } I oI C oC D (LCg.lst ys) S (MkEl w nf)) E' { s with heap := h, toks := tk })
    (fin : ∀ (o : Obj) (ys : List MVal) (l : List Int), IntsAre ys l → l.length = n → (∀ a ∈ l, 0 ≤ a ∧ a < 4) → Fin ys (nf o)) :
    LCg.CompRest prog w A h₀ L m env elt x scope cl s S P Fin n 0 [] news := by
  have e0 : news = nf o₀ := by
    obtain ⟨pre, post, e, hf, _⟩ := U.split
    rw [e, hf]
  rw [e0]
  have key : ∀ (j i : Nat) (ys : List MVal) (l : List Int) (o : Obj) (g mi : Int) (tg tm : Nat), i + j = n → IntsAre ys l → l.length = i → (∀ a ∈ l, 0 ≤ a ∧ a < 4) →
      o.IsDictOf (PySem.strKind PySem.Challenge.rw_no0057_01.row.prog w) [(Str.ofString "great", .int g tg), (Str.ofString "mixed", .int mi tm)] → 0 ≤ g → 0 ≤ mi → mi < 2147483647 →
      LCg.CompRest prog w A h₀ L m env elt x scope cl s S P Fin j i ys (nf o) := by
    intro j
    induction j with
    | zero =>
      intro i ys l o g mi tg tm hi hy hl hb _ _ _ _
      exact LCg.CompRest.zero (fin o ys l hy (by omega) hb)
    | succ j ih =>
      intro i ys l o g mi tg tm hi hy hl hb hd hg h1 h2
      refine LCg.CompRest.succ ?_
      intro v I oI C oC D m₂ h tk E' hv hC hx F N off ne
      refine wpAny_mono (turn v I oI C oC D m₂ ys h tk E' o g mi tg tm hd hg h1 h2 hC F N off ne) (fun y s₂ hq => ?_) fun _ _ e => e
      obtain ⟨h', tk', nw, e, F', N', off', hS, o', g', mi', a, tg', tm', t', rfl, hd', hg', h1', h2', rfl, h3, h4⟩ := hq
      refine ⟨h', tk', nf o', e, F', N', off', hS, ?_⟩
      refine ih (i + 1) _ (l ++ [a]) o' g' mi' tg' tm' (by omega) (IntsAre.append hy (.cons a t' .nil)) (by rw [List.length_append, hl]; rfl) ?_ hd' hg' h1' h2'
      intro b hb'
      rcases List.mem_append.mp hb' with h | h
      · exact hb b h
      · rw [List.mem_singleton.mp h]; exact ⟨h3, h4⟩
  exact key n 0 [] [] o₀ g mi tg tm (by omega) .nil rfl (fun _ h => nomatch h) d hg h1 h2
end
abbrev seenD (w : World) (k : Nat) (v : MVal) : Obj := PySem.W.dictOf [{ hash := PyData.keyHash w.params (Str.ofString "counts"), key := .str (Str.ofString "counts") k, val := v }] 1
theorem cnt_take {l : List Int} {i : Nat} {n : Int} (k : Int) (h : l[i]? = some n) : (((l.take (i + 1)).count k : Nat) : Int) = ((l.take i).count k : Nat) + if (n == k) = true then 1 else 0 := by
  rw [List.take_add_one, h, Option.toList_some, List.count_append, List.count_singleton]
  by_cases e : n = k
  · subst e; simp
  · have e' : (n == k) = false := by simpa using e
    rw [e']; simp
section
variable {prog : Program} {w : World} {A : Around} {E : Value → Shared → Prop} {s : Shared} {env : Env} {h₀ : Heap} {x : Str} {body : List Stmt} {Q : Flow → Shared → Prop}
/-- where a turn of the marks' loop ends: v is told -/
def SeenEnd (w : World) (h₀ : Heap) (L : Addr) (x : Str) (m₀ : MMap) (D se sd : Nat) (oD : Obj) (z o e : Int) (own : MLed) (s₁ : Shared) (Q : Flow → Shared → Prop) (f : Flow) (s₂ : Shared) : Prop :=
  match f with
  | .ret v => Q (.ret v) s₂
  | .brk => Q .next s₂
  | _ => ∃ (h' : Heap) (tk : Nat) (m' : MMap) (c k t1 t2 t3 : Nat), s₂ = { s₁ with heap := h', toks := tk } ∧ Fr h₀ L h' m' ∧ (∀ y, y ≠ x → m' y = m₀ y) ∧
      News h₀ L h' ((D, oD) :: (se, PySem.W.instObj 97 sd) :: (sd, seenD w k (.ref c)) :: (c, tupO [.int z t1, .int o t2, .int e t3]) :: own) ∧ (NeM c D ∧ NeM c se ∧ NeM c sd) ∧ OwnOff own [c]
theorem seenEnd {L : Addr} {m₀ m' : MMap} {D se sd c k t1 t2 t3 : Nat} {oD : Obj} {z o e z' o' e' : Int} {own all : MLed} {s₁ : Shared} {h' : Heap} {tk : Nat} (F : Fr h₀ L h' m') (hm : ∀ y, y ≠ x → m' y = m₀ y) (N : News h₀ L h' all)
    (m1 : (D, oD) ∈ all) (m2 : (se, PySem.W.instObj 97 sd) ∈ all) (m3 : (sd, seenD w k (.ref c)) ∈ all) (m4 : (c, tupO [.int z' t1, .int o' t2, .int e' t3]) ∈ all) (m5 : ∀ p ∈ own, p ∈ all) (ez : z' = z) (eo : o' = o) (ee : e' = e)
    (ne : NeM c D ∧ NeM c se ∧ NeM c sd) (off : ∀ p ∈ own, p.1 < c) :
    SeenEnd w h₀ L x m₀ D se sd oD z o e own s₁ Q .next { s₁ with heap := h', toks := tk } := by
  subst ez eo ee
  refine ⟨h', tk, m', c, k, t1, t2, t3, rfl, F, hm, kst_newsOf N ?_, ne, ?_⟩
  · intro p hp
    simp only [List.mem_cons] at hp
    rcases hp with rfl | rfl | rfl | rfl | hp
    · exact m1
    · exact m2
    · exact m3
    · exact m4
    · exact m5 p hp
  · intro p hp b hb
    rw [List.mem_singleton.mp hb]
    exact Nat.ne_of_lt (off p hp)
theorem marks_loop {L D se sd c k t1 t2 t3 nn : Nat} {ys : List MVal} {l : List Int} {m₀ : MMap} {actual : MLed} (hL : env.locals = L) (hh : A.handled = none) (F : Fr h₀ L s.heap m₀) (N : News h₀ L s.heap actual)
    (hi : IntsAre ys l) (m1 : (D, PySem.W.listOf ys.toArray nn) ∈ actual) (m2 : (se, PySem.W.instObj 97 sd) ∈ actual) (m3 : (sd, seenD w k (.ref c)) ∈ actual) (m4 : (c, tupO [.int 0 t1, .int 0 t2, .int 0 t3]) ∈ actual)
    (n1 : NeM D se) (n2 : NeM D sd) (n3 : NeM se sd) (n4 : NeM c D) (n5 : NeM c se) (n6 : NeM c sd)
    (turn : ∀ (v : Int) (t c k t1 t2 t3 : Nat) (z o e : Int) (own : MLed) (h : Heap) (tk : Nat), OwnOff own [D, se, sd, c] → NeM c D → NeM c se → NeM c sd → Fr h₀ L h (fun y => if y = x then some (.int v t) else m₀ y) →
      News h₀ L h ((D, PySem.W.listOf ys.toArray nn) :: (se, PySem.W.instObj 97 sd) :: (sd, seenD w k (.ref c)) :: (c, tupO [.int z t1, .int o t2, .int e t3]) :: own) →
      wpAny (model prog w) A (execs body env) (SeenEnd w h₀ L x m₀ D se sd (PySem.W.listOf ys.toArray nn) (z + if (v == 2) = true then 1 else 0) (o + if (v == 1) = true then 1 else 0) (e + if (v == 3) = true then 1 else 0) own { s with heap := h, toks := tk } Q) E { s with heap := h, toks := tk })
    (fin : ∀ (u : MMap) (h : Heap) (tk c k t1 t2 t3 : Nat), Fr h₀ L h (fun y => if y = x then u y else m₀ y) → NeM c D → NeM c se → NeM c sd →
      News h₀ L h [(D, PySem.W.listOf ys.toArray nn), (se, PySem.W.instObj 97 sd), (sd, seenD w k (.ref c)), (c, tupO [.int (l.count 2 : Nat) t1, .int (l.count 1 : Nat) t2, .int (l.count 3 : Nat) t3])] → Q .next { s with heap := h, toks := tk }) :
    wpAny (model prog w) A (pyIter (.ref D)) (fun it s₂ => LoopAtV prog w A h₀ env x body Q E it s₂) E s := by
  subst hL
  let J : Nat → MMap → MLed → Prop := fun i m₁ nx => (∀ y, y ≠ x → m₁ y = m₀ y) ∧ ∃ (c k t1 t2 t3 : Nat), (NeM c D ∧ NeM c se ∧ NeM c sd) ∧
    nx = [(D, PySem.W.listOf ys.toArray nn), (se, PySem.W.instObj 97 sd), (sd, seenD w k (.ref c)), (c, tupO [.int ((l.take i).count 2 : Nat) t1, .int ((l.take i).count 1 : Nat) t2, .int ((l.take i).count 3 : Nat) t3])]
  have hlen : ys.length = l.length := hi.length
  refine kdl_iter (news := [(D, PySem.W.listOf ys.toArray nn), (se, PySem.W.instObj 97 sd), (sd, seenD w k (.ref c)), (c, tupO [.int 0 t1, .int 0 t2, .int 0 t3])]) (vs := ys) (nn := nn) J hh (List.mem_cons_self ..) F (kst_newsOf N ?_) ⟨fun _ _ => rfl, c, k, t1, t2, t3, ⟨n4, n5, n6⟩, by simp⟩ ?_ ?_
  · intro p hp
    simp only [List.mem_cons, List.not_mem_nil, or_false] at hp
    rcases hp with rfl | rfl | rfl | rfl <;> assumption
  · rintro i v m₁ nx h tk own hv hoff _ ⟨hm, c, k, t1, t2, t3, ⟨q1, q2, q3⟩, rfl⟩ F₁ N₁
    have hi' : i < l.length := by rw [← hlen]; exact (List.getElem?_eq_some_iff.mp hv).1
    obtain ⟨t, hx⟩ := hi.get i (l[i]'hi') (List.getElem?_eq_getElem hi')
    have ev : v = .int (l[i]'hi') t := by rw [hx] at hv; exact (Option.some.inj hv).symm
    subst ev
    have hn : l[i]? = some (l[i]'hi') := List.getElem?_eq_getElem hi'
    have em : (fun y => if y = x then some (Value.int (l[i]'hi') t) else m₁ y) = fun y => if y = x then some (Value.int (l[i]'hi') t) else m₀ y := by
      funext y
      by_cases h1 : y = x
      · rw [if_pos h1, if_pos h1]
      · rw [if_neg h1, if_neg h1, hm y h1]
    rw [em] at F₁
    simp only [List.map_cons, List.map_nil] at hoff
    refine wpAny_mono (turn (l[i]'hi') t c k t1 t2 t3 _ _ _ own h tk hoff q1 q2 q3 F₁ N₁) (fun f s₂ hq => ?_) fun _ _ e => e
    have up : ∀ {f' : Flow}, (∃ (h' : Heap) (tk' : Nat) (m' : MMap) (c' k t1 t2 t3 : Nat), s₂ = { s with heap := h', toks := tk' } ∧ Fr h₀ env.locals h' m' ∧ (∀ y, y ≠ x → m' y = m₀ y) ∧
        News h₀ env.locals h' ((D, PySem.W.listOf ys.toArray nn) :: (se, PySem.W.instObj 97 sd) :: (sd, seenD w k (.ref c')) :: (c', tupO [.int (((l.take i).count 2 : Nat) + if (l[i]'hi' == 2) = true then 1 else 0) t1, .int (((l.take i).count 1 : Nat) + if (l[i]'hi' == 1) = true then 1 else 0) t2, .int (((l.take i).count 3 : Nat) + if (l[i]'hi' == 3) = true then 1 else 0) t3]) :: own) ∧ (NeM c' D ∧ NeM c' se ∧ NeM c' sd) ∧ OwnOff own [c']) →
        InvEndG h₀ env.locals (fun m' nx => (D, PySem.W.listOf ys.toArray nn) ∈ nx ∧ J (i + 1) m' nx) own { s with heap := h, toks := tk } s₂ := by
      rintro _ ⟨h', tk', m', c', k', t1', t2', t3', e, F', hm', N', hc', ho'⟩
      rw [← cnt_take 2 hn, ← cnt_take 1 hn, ← cnt_take 3 hn] at N'
      refine ⟨h', tk', m', _, _, e, F', N', fun p hp => ?_, fun p hp => ?_, ?_, List.mem_cons_self .., hm', c', k', t1', t2', t3', hc', rfl⟩
      · simp only [List.mem_cons, List.not_mem_nil, or_false] at hp ⊢
        rcases hp with rfl | rfl | rfl | rfl <;> simp
      · simp [hp]
      · intro p hp b hb
        simp only [List.map_cons, List.map_nil, List.mem_cons, List.not_mem_nil, or_false] at hb
        rcases hb with rfl | rfl | rfl | rfl
        · exact hoff p hp _ (by simp)
        · exact hoff p hp _ (by simp)
        · exact hoff p hp _ (by simp)
        · exact ho' p hp _ (by simp)
    cases f with
    | ret v => exact hq
    | brk => exact hq
    | next => exact up (f' := .next) hq
    | cont => exact up (f' := .cont) hq
  · rintro m₁ nx h tk ⟨hm, c, k, t1, t2, t3, ⟨q1, q2, q3⟩, rfl⟩ F₁ N₁
    rw [hlen, List.take_length] at N₁
    refine fin m₁ h tk c k t1 t2 t3 ?_ q1 q2 q3 N₁
    have em : (fun y => if y = x then m₁ y else m₀ y) = m₁ := by
      funext y
      by_cases h1 : y = x
      · rw [if_pos h1]
      · rw [if_neg h1, hm y h1]
    rw [em]; exact F₁
end
section
variable {w : World} {p : Program} {loose : List Str} {mean : ExcName → Option Value} {mg mb : MMap}
theorem cfitV_use {dp un : Nat} {gd : Option (List Code)} {cn : Str} {cs : Scope} {a : Addr} {ccd : Value} {cl : List (Str × Addr)} {outer : List Env} {A₀ : Around} {base h₀ : Heap} {L : Addr} {m : MMap} {s : Shared} {Q E : Value → Shared → Prop}
    {news : MLed} {b c e f : Addr} {b0 b1 b2 a0 a1 a2 z0 s0 : Int} {t0 t1 t2 t3 t4 t5 t6 t7 t8 t9 : Nat} (r : Bool)
    (B : Below A₀ base outer h₀) (F : Fr h₀ L s.heap m) (X : (Mine.hd.heap_39 w.params).In h₀) (N : News h₀ L s.heap news) (T : Top p loose mean mg mb h₀) (hk : cs.kind = .function) (hd : dp + 2 < recursionLimit) (hu : un + 8 * 2 + 400 < cLine)
    (hb : (b, tupO [.int b0 t0, .int b1 t1, .int b2 t2]) ∈ news) (hc : (c, tupO [.int a0 t3, .int a1 t4, .int a2 t5]) ∈ news) (hz : (e, tupO [.int z0 t6, .int 0 t7]) ∈ news) (hs : (f, tupO [.int s0 t8, .int 0 t9]) ∈ news)
    (hb1 : b1 = 0) (ha1 : 0 ≤ a1) (hr : lfitB b0 b1 b2 a0 a1 a2 z0 s0 = r)
    (ret : ∀ (h' : Heap) (tk' : Nat), Fr h₀ L h' m → News h₀ L h' news → Q (.bool r) { s with heap := h', toks := tk' }) :
    wpAny (model PySem.Challenge.rw_no0057_01.row.prog w) (ktrTop dp un gd cn cs L a ccd cl outer) (call (.ref 19) [.ref b, .ref c, .ref e, .ref f]) Q E s :=
  cfit_use B F X N T hk hd hu hb hc hz hs hb1 ha1 fun h' tk' F' N' => retB hr.symm (ret h' tk' F' N')
end
section
variable {cl : Str → Option Addr} {mean : ExcName → Option Value} {s₁ s' : Shared} {L : Addr} {m : Str → Option Value} {ns : List Int}
theorem end_true (F : Fr s₁.heap L s'.heap m) (hg : s'.gens = #[]) (hos : s'.os = s₁.os) : GoodW PySem.Challenge.rw_no0057_01.row.claim cl mean [ofPy (PyData.list (List.map PyData.int ns))] s₁ (.ok (.ret (.bool true))) s' := by
  refine goodW_bool F hg (raisesW_false ?_) ?_ hos
  · wrow_none_raised
  · wrow_post
end
/-- the state that trials make -/
def stOf (tr : Int) : Str := if 0 < tr then Str.ofString "testing" else Str.ofString "failed"
theorem stOf_ok (tr : Int) : stOk (stOf tr) := by
  unfold stOf
  split
  · exact .inl rfl
  · exact .inr (.inr (.inr rfl))
section
variable {prog : Program} {w : World} {A : Around} {E : Value → Shared → Prop} {s : Shared} {env : Env} {Q : Value → Shared → Prop} {c a b : PySem.Expr} {pos : Pos} {t tk : Nat} {tr : Int}
/-- both ways of the state's choice end in one -/
def CutStr (tr : Int) (s : Shared) (v : Value) (s' : Shared) : Prop := ∃ t tk, v = .str (stOf tr) t ∧ s' = { s with toks := tk }
theorem cutStrT (h : 0 < tr) : CutStr tr s (.str (Str.ofString "testing") t) { s with toks := tk } := ⟨t, tk, by rw [stOf, if_pos h], rfl⟩
theorem cutStrF (h : ¬0 < tr) : CutStr tr s (.str (Str.ofString "failed") t) { s with toks := tk } := ⟨t, tk, by rw [stOf, if_neg h], rfl⟩
theorem ifst_cut (h5 : tr < 5) (h : wpAny (model prog w) A (isTrue c env (eval c env)) (fun r s₂ => if r then wpAny (model prog w) A (eval a env) (CutStr tr s) E s₂ else wpAny (model prog w) A (eval b env) (CutStr tr s) E s₂) E s)
    (k : ∀ t tk, Q (.str (stOf tr) t) { s with toks := tk }) : wpAny (model prog w) A (eval (.IfExp c a b pos) env) Q E s := by
  refine wpAny_mono (IfExp_ h) (fun v s' q => ?_) fun _ _ e => e
  obtain ⟨t, tk, rfl, rfl⟩ := q
  exact k t tk
end
local macro_rules | `(tactic| walk_at "eval IfExp") => `(tactic| (k_here; (with_reducible show wpAny _ _ (eval (PySem.Expr.IfExp (PySem.Expr.Compare (PySem.Expr.Name (Str.ofString "trials") _) _ _ _) _ _ _) _) _ _ _); k_dflt (refine' ifst_cut ?h5 ?_ ?_; (case h5 => assumption)); (try intro _ _); (try dsimp only)))
local macro_rules | `(tactic| walk_at "CutStr") => `(tactic| first | exact cutStrT (by omega) | exact cutStrF (by omega))
local macro_rules | `(tactic| walk_at "STOK") => `(tactic| exact stOf_ok _)
local macro_rules | `(tactic| walk_at "MARKSRC") => `(tactic| (
  k_here
  k_dflt (
  (refine LCg.CompSrc.range (by rfl) (by k_asm) (by k_asm) (by assumption) (small_one (by omega) (by omega) (by omega) (by omega)) (rangeSize_nat _ _) (by rw [sizeLine_eq]; omega) ?_)
  intro _
  (refine' marks_rest (by k_asm) (by k_mem) (by k_updF) (by assumption) (by assumption) (by assumption) (fun _ _ _ _ _ _ _ _ _ _ _ _ _ _ _ _ _ _ _ _ _ _ N' off' _ => ?_) (fun _ _ _ _ _ _ => ?_))
  all_goals ((try dsimp only at N'); (try (have off2' := off'; simp only [LCg.Off3, and_true] at off2')); (try dsimp only); (try k_sweep); (try k_fold)))))
local macro_rules | `(tactic| walk_at "CompSrc") => `(tactic| walk_at "MARKSRC")
local macro_rules | `(tactic| walk_at "CompEnd") => `(tactic| (k_dflt (refine' mkEnd (by k_asm) (by k_asm) (by k_asm) (by assumption) (by assumption) (by assumption) (by assumption) (by assumption) (by assumption) (by walk_at "SUB") trivial)))
local macro_rules | `(tactic| walk_at "MARKLOOP") => `(tactic| (
  k_here
  (with_reducible show wpAny _ _ (pyIter (Value.ref _)) (fun it s₂ => LoopAtV _ _ _ _ _ _ _ _ _ it s₂) _ _)
  k_dflt (
  (refine' marks_loop rfl rfl (by k_asm) (by k_asm) (by assumption) (by k_mem) (by k_mem) (by k_mem) (by k_mem) (NeM.of (by k_ne)) (NeM.of (by k_ne)) (NeM.of (by k_ne)) (NeM.of (by k_ne)) (NeM.of (by k_ne)) (NeM.of (by k_ne)) ?_ ?_)
  all_goals (intros; (try dsimp only); (try k_sweep); (try k_fold)))))
local macro_rules | `(tactic| walk_at "pyIter ref") => `(tactic| walk_at "MARKLOOP")
local macro_rules | `(tactic| walk_at "SeenEnd") => `(tactic| (k_dflt (refine' seenEnd (by k_asm) (by intro _ h1; simp [h1]) (by k_asm) (by k_mem) (by k_mem) (by k_mem) (by k_mem) (by walk_at "SUB") rfl rfl rfl ⟨NeM.of (by k_ne), NeM.of (by k_ne), NeM.of (by k_ne)⟩ (by first | exact kst_ltOf (by with_reducible assumption) | exact kst_ltOf (And.right (And.right (And.right (And.right (by assumption)))))))))
local macro_rules | `(tactic| walk_at "call ref") => `(tactic| (k_here; (with_reducible show wpAny _ _ (call (Value.ref 19) [Value.ref _, Value.ref _, Value.ref _, Value.ref _]) _ _ _); k_dflt (first
  | (refine' cfitV_use true (by k_asm) (by k_asm) (by k_asm) (by k_asm) (by k_asm) (by walk_at "HK") (by ktr_room) (by ktr_units) (by k_mem) (by k_mem) (by k_mem) (by k_mem) (by exact rfl) (by omega) (by exact rfl) ?_)
  | (refine' cfitV_use false (by k_asm) (by k_asm) (by k_asm) (by k_asm) (by k_asm) (by walk_at "HK") (by ktr_room) (by ktr_units) (by k_mem) (by k_mem) (by k_mem) (by k_mem) (by exact rfl) (by omega) (by exact rfl) ?_)); intro _ _ _ _; (try k_sweep)))
local macro_rules | `(tactic| kc_close) => `(tactic| (refine' end_true ?F ?g ?o; (case F => with_reducible assumption); (case g => assumption); (case o => exact rfl)))
set_option maxHeartbeats 8000000 in
theorem law_walk : PySem.Challenge.rw_no0057_01.Holds := by
  w_top off
  refine Mine.hd ?_
  k_go0; (all_goals try k_fold)
  k_steps
end Mine
theorem PySem.Challenge.cw_no0057_01_holds : PySem.Challenge.rw_no0057_01.Holds := by
  exact Mine.law_walk
