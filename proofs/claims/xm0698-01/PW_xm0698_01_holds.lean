import PyProof.Rows.All
import Wide.All
import OpenK.AllK
import Wide.FinOn
import PySem.Challenge.RW_xm0698_01
open PySem PySem.W PyProof.Rows PySem.Calls PySem.Spec
set_option Elab.async false
set_option maxRecDepth 100000
set_option maxHeartbeats 8000000
namespace Mine
open_top hd for PySem.Challenge.rw_xm0698_01
end Mine
namespace Mine
theorem lampT1 : True := by
  w_top off
  trivial
abbrev src (x y : Int) (tx ty : Tok) (n : Nat) : Obj := listOf #[.int x tx, .int y ty] n

theorem noPy {x y : Int} (h0 : 0 < y) (h1 : y ≤ 2 ^ 40) : Builtin.divisionGoesByPylong x y = false := by
  refine PyProof.noPylong_of_log2 ?_
  have h : y.natAbs.log2 < 41 := (Nat.log2_lt (by omega)).mpr (by omega)
  omega
local macro_rules | `(tactic| walk_at "binaryOp FloorDiv int int") => `(tactic| ((with_reducible refine floordiv_int ?kbe ?_ (Or.inl (noPy ?kb0 ?kb1))); (case kbe => omega); (case kb0 => first | assumption | omega); (case kb1 => first | assumption | omega)))
theorem g0 (a b c : Int) : [a, b].getD (Int.toNat 0) c = a := rfl
theorem g1 (a b c : Int) : [a, b].getD (Int.toNat 1) c = b := rfl
theorem mulOk_m {a b : Int} : IntMulOk (a.fmod 2147483647) b :=
  IntMulOk.of_left (intBits_le_64 (by have := Int.fmod_nonneg_of_pos a (b := 2147483647) (by omega); omega) (by have := Int.fmod_lt_of_pos a (b := 2147483647) (by omega); omega))
local macro_rules | `(tactic| mul_fits) => `(tactic| (simp only [g0, g1]; exact mulOk_m))
theorem take_call (w : World) : ∀ {p : Program} {loose : List Str} {mean : ExcName → Option Value} {mg mb : Str → Option Value}
  {dp un : Nat} {gd : Option (List Code)} {cn : Str} {cs : Scope} {a : Addr} {ccd : Value} {cl : List (Str × Addr)} {outer : List Env} {A₀ : Around} {base h₀ : Heap} {L : Addr} {m : Str → Option Value} {s : Shared} {Q E : Value → Shared → Prop}
  {news : List (Addr × Obj)} {sa : Addr} {x y : Int} {tx ty : Tok} {n : Nat} {top : Int} {t : Tok}
  (_ : Below A₀ base outer h₀) (_ : Fr h₀ L s.heap m) (_ : Frag.In (Mine.hd.heap_39 w.params) h₀) (_ : Top p loose mean mg mb h₀) (_ : cs.kind = .function)
  (_ : News h₀ L s.heap ((sa, src x y tx ty n) :: news)) (_ : OwnOff news [sa])
  (_ : 0 < top) (_ : top ≤ 2 ^ 40) (_ : 0 ≤ x) (_ : 0 ≤ y) (_ : y < 2147483647) (_ : dp + 1 < recursionLimit) (_ : un + 100 < cLine)
  (_ : ∀ (r x' y' : Int) (t' tx' ty' : Tok) (n' : Nat) (h' : Heap) (tk : Nat), 0 ≤ r → r < top → 0 ≤ x' → 0 ≤ y' → y' < 2147483647 → Fr h₀ L h' m → News h₀ L h' ((sa, src x' y' tx' ty' n') :: news) → Q (.int r t') { s with heap := h', toks := tk }),
  wpAny (model PySem.Challenge.rw_xm0698_01.row.prog w) (ktrTop dp un gd cn cs L a ccd cl outer) (call (.ref 35) [.ref sa, .int top t]) Q E s := by
  k_fill
  intro p loose mean mg mb dp un gd cn cs a ccd cl outer A₀ base h₀ L m s Q E news sa x y tx ty n top t B F X T hk N hne ht0 ht1 hx hy hy1 hd hu hret
  refine wpAny_call ?_
  k_dflt cell_enter
  k_steps
  · simp only [g0] at *
    refine' hret _ _ _ _ _ _ _ _ _ ?a1 ?a2 ?a3 ?a4 ?a5 ?a6 ?a7
    case a6 => assumption
    case a7 => assumption
    · exact Int.fmod_nonneg_of_pos _ ht0
    · exact Int.fmod_lt_of_pos _ ht0
    · rw [Int.fdiv_eq_ediv_of_nonneg _ (by omega)]; exact Int.ediv_nonneg hx (by omega)
    · exact hy
    · exact hy1
  · simp only [g0, g1] at *
    refine' hret _ _ _ _ _ _ _ _ _ ?b1 ?b2 ?b3 ?b4 ?b5 ?b6 ?b7
    case b6 => assumption
    case b7 => assumption
    · exact Int.fmod_nonneg_of_pos _ ht0
    · exact Int.fmod_lt_of_pos _ ht0
    · exact hx
    · exact Int.fmod_nonneg_of_pos _ (by omega)
    · exact Int.fmod_lt_of_pos _ (by omega)

theorem upd_rest {sa : Addr} {o : Obj} {news : List (Addr × Obj)} {news' : Obj → List (Addr × Obj)} (U : ∀ o', Upd sa o o' news (news' o')) :
    ∃ rest : List (Addr × Obj), OwnOff rest [sa] ∧ (∀ q ∈ (sa, o) :: rest, q ∈ news) ∧ (∀ q ∈ news, q ∈ (sa, o) :: rest) ∧ ∀ o', ∀ q ∈ news' o', q ∈ (sa, o') :: rest := by
  obtain ⟨pre, post, h1, _, h3, h4⟩ := (U o).split
  have hne : ∀ q ∈ news, q.1 = sa → q = (sa, o) := by
    intro q hq e
    rw [h1] at hq
    rcases List.mem_append.mp hq with h | h
    · exact absurd e (h3 q h)
    · rcases List.mem_cons.mp h with h | h
      · exact h
      · exact absurd e (h4 q h)
  have hrest : ∀ q ∈ news, q = (sa, o) ∨ q ∈ news.filter (fun q => decide (q.1 ≠ sa)) := by
    intro q hq
    by_cases e : q.1 = sa
    · exact .inl (hne q hq e)
    · exact .inr (List.mem_filter.mpr ⟨hq, by simpa using e⟩)
  refine ⟨news.filter (fun q => decide (q.1 ≠ sa)), ?_, ?_, ?_, ?_⟩
  · intro q hq b hb
    have := (List.mem_filter.mp hq).2
    rw [List.mem_singleton.mp hb]
    simpa using this
  · intro q hq
    rcases List.mem_cons.mp hq with h | h
    · rw [h, h1]; simp
    · exact (List.mem_filter.mp h).1
  · intro q hq
    exact List.mem_cons.mpr (hrest q hq)
  · intro o' q hq
    obtain ⟨pre', post', g1', g2', g3', g4'⟩ := (U o').split
    rw [g2'] at hq
    rcases List.mem_append.mp hq with h | h
    · have : q ∈ news := by rw [g1']; exact List.mem_append_left _ h
      rcases hrest q this with e | e
      · exact absurd (by rw [e]) (g3' _ h)
      · exact List.mem_cons_of_mem _ e
    · rcases List.mem_cons.mp h with h | h
      · rw [h]; exact List.mem_cons_self
      · have : q ∈ news := by rw [g1']; exact List.mem_append_right _ (List.mem_cons_of_mem _ h)
        rcases hrest q this with e | e
        · exact absurd (by rw [e]) (g4' _ h)
        · exact List.mem_cons_of_mem _ e

theorem take_use (w : World) : ∀ {p : Program} {loose : List Str} {mean : ExcName → Option Value} {mg mb : Str → Option Value}
  {dp un : Nat} {gd : Option (List Code)} {cn : Str} {cs : Scope} {a : Addr} {ccd : Value} {cl : List (Str × Addr)} {outer : List Env} {A₀ : Around} {base h₀ : Heap} {L : Addr} {m : Str → Option Value} {s : Shared} {Q E : Value → Shared → Prop}
  {news : List (Addr × Obj)} {news' : Obj → List (Addr × Obj)} {sa : Addr} {x y : Int} {tx ty : Tok} {n : Nat} {top : Int} {t : Tok}
  (_ : Below A₀ base outer h₀) (_ : Fr h₀ L s.heap m) (_ : Frag.In (Mine.hd.heap_39 w.params) h₀) (_ : Top p loose mean mg mb h₀) (_ : cs.kind = .function)
  (_ : News h₀ L s.heap news) (_ : ∀ o', Upd sa (src x y tx ty n) o' news (news' o'))
  (_ : 0 < top) (_ : top ≤ 2 ^ 40) (_ : 0 ≤ x) (_ : 0 ≤ y) (_ : y < 2147483647) (_ : dp + 1 < recursionLimit) (_ : un + 100 < cLine)
  (_ : ∀ (r x' y' : Int) (t' tx' ty' : Tok) (n' : Nat) (h' : Heap) (tk : Nat), 0 ≤ r → r < top → 0 ≤ x' → 0 ≤ y' → y' < 2147483647 → Fr h₀ L h' m → News h₀ L h' (news' (src x' y' tx' ty' n')) → Q (.int r t') { s with heap := h', toks := tk }),
  wpAny (model PySem.Challenge.rw_xm0698_01.row.prog w) (ktrTop dp un gd cn cs L a ccd cl outer) (call (.ref 35) [.ref sa, .int top t]) Q E s := by
  intro p loose mean mg mb dp un gd cn cs a ccd cl outer A₀ base h₀ L m s Q E news news' sa x y tx ty n top t B F X T hk N U ht0 ht1 hx hy hy1 hd hu hret
  obtain ⟨rest, hoff, hin, _, hout⟩ := upd_rest U
  exact take_call w B F X T hk (fun q hq => N q (hin q hq)) hoff ht0 ht1 hx hy hy1 hd hu fun r x' y' t' tx' ty' n' h' tk a1 a2 a3 a4 a5 F' N' =>
    hret r x' y' t' tx' ty' n' h' tk a1 a2 a3 a4 a5 F' fun q hq => N' q (hout _ q hq)
end Mine
namespace Mine
theorem lampT2 : True := by
  w_top off
  trivial
theorem len_any {prog : Program} {w : World} {A : Around} {E : Value → Shared → Prop} {s : Shared} {h₀ : Heap} {L l : Addr} {news : List (Addr × Obj)} {us : List Value} {c : Nat} {Q : Value → Shared → Prop} (N : News h₀ L s.heap news) (hm : (l, listOf us.toArray c) ∈ news) (hfit : us.length < 2 ^ 20)
    (h : Q (.int (us.length : Int) (s.toks + 1)) { s with toks := s.toks + 1 + 1 }) : wpAny (model prog w) A (call (.builtin "len") [.ref l]) Q E s :=
  kst_len N hm rfl (by omega) h
theorem item_any {prog : Program} {w : World} {A : Around} {E : Value → Shared → Prop} {s : Shared} {value slice : PySem.Expr} {h₀ : Heap} {L l : Addr} {news : List (Addr × Obj)} {us : List Value} {c : Nat} {k : Int} {u : Tok} {Q : Value → Shared → Prop} (N : News h₀ L s.heap news) (hm : (l, listOf us.toArray c) ∈ news) (hfit : us.length < 2 ^ 20)
    (h0 : 0 ≤ k) (h1 : k < us.length)
    (h : ∀ v ∈ us, Q v s)
    (hs : subscripted slice false (.ref l) (.int k u) = operate [.ref l, .int k u] (getItem (.ref l) (.int k u)) := by with_unfolding_all rfl) :
    wpAny (model prog w) A (subscriptTail value slice (.ref l) (.int k u)) Q E s := by
  have hl : s.heap.IsList l us.toArray := ⟨_, (N _ hm).1, rfl, c, rfl⟩
  have hk : k.toNat < us.length := by omega
  exact tail_any hl.typeIs slot_list_getitem.lookup (wpAny_getItem_list hl h0 (by omega) (by simp [List.getElem?_eq_getElem hk]) (h _ (List.getElem_mem hk))) hs

local macro_rules | `(tactic| k_mem) => `(tactic| first | assumption | exact List.mem_cons_self | (refine' List.mem_cons_of_mem _ ?_; k_mem))
local macro_rules | `(tactic| walk_at "call ref") => `(tactic| (k_here; (with_reducible show wpAny _ _ (call (Value.ref 35) [Value.ref _, Value.int _ _]) _ _ _); k_dflt (refine' take_use _ ?k1 ?k2 ?k3 ?k4 ?k5 ?k6 ?k7 ?k8 ?k9 ?k10 ?k11 ?k12 ?k13 ?k14 ?_); (case k1 => k_asm); (case k2 => k_asm); (case k3 => k_asm); (case k4 => k_asm); (case k5 => first | exact rfl | assumption); (case k6 => k_asm); (case k7 => (intro o'; k_upd)); (case k8 => first | assumption | omega | decide); (case k9 => first | assumption | omega | decide); (case k10 => first | assumption | omega); (case k11 => first | assumption | omega); (case k12 => first | assumption | omega); (case k13 => ktr_room); (case k14 => ktr_units); intro r8 x8 y8 t8 tx8 ty8 n8 h8 tk8 hr0 hr1 hx8 hy8 hy9 F8 N8; (try dsimp only)))
local macro_rules | `(tactic| walk_at "call builtin:len") => `(tactic| (k_here; k_dflt (refine' len_any ?k1 ?k2 ?k3 ?_); (case k1 => k_asm); (case k2 => k_mem); (case k3 => first | assumption | omega)))
local macro_rules | `(tactic| walk_at "subscriptTail Name Call ref int") => `(tactic| (k_here; k_dflt (refine' item_any ?k1 ?k2 ?k3 ?k4 ?k5 ?_); (case k1 => k_asm); (case k2 => k_mem); (case k3 => first | assumption | omega); (case k4 => first | assumption | omega); (case k5 => first | assumption | omega); intro v8 hv8))

theorem one_call (w : World) : ∀ {p : Program} {loose : List Str} {mean : ExcName → Option Value} {mg mb : Str → Option Value}
  {dp un : Nat} {gd : Option (List Code)} {cn : Str} {cs : Scope} {a : Addr} {ccd : Value} {cl : List (Str × Addr)} {outer : List Env} {A₀ : Around} {base h₀ : Heap} {L : Addr} {m : Str → Option Value} {s : Shared} {Q E : Value → Shared → Prop}
  {news : List (Addr × Obj)} {sa : Addr} {x y : Int} {tx ty : Tok} {n : Nat} {b : Addr} {vs : List Value} {k : Nat}
  (_ : Below A₀ base outer h₀) (_ : Fr h₀ L s.heap m) (_ : Frag.In (Mine.hd.heap_39 w.params) h₀) (_ : Top p loose mean mg mb h₀) (_ : cs.kind = .function)
  (_ : News h₀ L s.heap ((sa, src x y tx ty n) :: news)) (_ : OwnOff news [sa])
  (_ : (b, listOf vs.toArray k) ∈ news) (_ : vs.length < 2 ^ 20) (_ : 0 < vs.length) (_ : 0 ≤ x) (_ : 0 ≤ y) (_ : y < 2147483647) (_ : dp + 2 < recursionLimit) (_ : un + 200 < cLine)
  (_ : ∀ (v : Value) (x' y' : Int) (tx' ty' : Tok) (n' : Nat) (h' : Heap) (tk : Nat), v ∈ vs → 0 ≤ x' → 0 ≤ y' → y' < 2147483647 → Fr h₀ L h' m → News h₀ L h' ((sa, src x' y' tx' ty' n') :: news) → Q v { s with heap := h', toks := tk }),
  wpAny (model PySem.Challenge.rw_xm0698_01.row.prog w) (ktrTop dp un gd cn cs L a ccd cl outer) (call (.ref 42) [.ref sa, .ref b]) Q E s := by
  k_fill
  intro p loose mean mg mb dp un gd cn cs a ccd cl outer A₀ base h₀ L m s Q E news sa x y tx ty n b vs k B F X T hk N hne hb hlen hpos hx hy hy1 hd hu hret
  refine wpAny_call ?_
  k_dflt cell_enter
  k_steps
  refine' hret _ _ _ _ _ _ _ _ ?a1 ?a2 ?a3 ?a4 ?a5 ?a6
  case a6 => assumption
  all_goals assumption

theorem one_use (w : World) : ∀ {p : Program} {loose : List Str} {mean : ExcName → Option Value} {mg mb : Str → Option Value}
  {dp un : Nat} {gd : Option (List Code)} {cn : Str} {cs : Scope} {a : Addr} {ccd : Value} {cl : List (Str × Addr)} {outer : List Env} {A₀ : Around} {base h₀ : Heap} {L : Addr} {m : Str → Option Value} {s : Shared} {Q E : Value → Shared → Prop}
  {news : List (Addr × Obj)} {news' : Obj → List (Addr × Obj)} {sa : Addr} {x y : Int} {tx ty : Tok} {n : Nat} {b : Addr} {vs : List Value} {k : Nat}
  (_ : Below A₀ base outer h₀) (_ : Fr h₀ L s.heap m) (_ : Frag.In (Mine.hd.heap_39 w.params) h₀) (_ : Top p loose mean mg mb h₀) (_ : cs.kind = .function)
  (_ : News h₀ L s.heap news) (_ : ∀ o', Upd sa (src x y tx ty n) o' news (news' o'))
  (_ : (b, listOf vs.toArray k) ∈ news) (_ : b ≠ sa) (_ : vs.length < 2 ^ 20) (_ : 0 < vs.length) (_ : 0 ≤ x) (_ : 0 ≤ y) (_ : y < 2147483647) (_ : dp + 2 < recursionLimit) (_ : un + 200 < cLine)
  (_ : ∀ (v : Value) (x' y' : Int) (tx' ty' : Tok) (n' : Nat) (h' : Heap) (tk : Nat), v ∈ vs → 0 ≤ x' → 0 ≤ y' → y' < 2147483647 → Fr h₀ L h' m → News h₀ L h' (news' (src x' y' tx' ty' n')) → Q v { s with heap := h', toks := tk }),
  wpAny (model PySem.Challenge.rw_xm0698_01.row.prog w) (ktrTop dp un gd cn cs L a ccd cl outer) (call (.ref 42) [.ref sa, .ref b]) Q E s := by
  intro p loose mean mg mb dp un gd cn cs a ccd cl outer A₀ base h₀ L m s Q E news news' sa x y tx ty n b vs k B F X T hk N U hb hbs hlen hpos hx hy hy1 hd hu hret
  obtain ⟨rest, hoff, hin, hin2, hout⟩ := upd_rest U
  have hb' : (b, listOf vs.toArray k) ∈ rest := by
    rcases List.mem_cons.mp (hin2 _ hb) with e | e
    · exact absurd (congrArg Prod.fst e) hbs
    · exact e
  exact one_call w B F X T hk (fun q hq => N q (hin q hq)) hoff hb' hlen hpos hx hy hy1 hd hu fun v x' y' tx' ty' n' h' tk a1 a2 a3 a4 F' N' =>
    hret v x' y' tx' ty' n' h' tk a1 a2 a3 a4 F' fun q hq => N' q (hout _ q hq)

local macro_rules | `(tactic| walk_at "call ref") => `(tactic| (k_here; (with_reducible show wpAny _ _ (call (Value.ref 42) [Value.ref _, Value.ref _]) _ _ _); k_dflt (refine' one_use _ ?k1 ?k2 ?k3 ?k4 ?k5 ?k6 ?k7 ?k8 ?k8b ?k9 ?k10 ?k11 ?k12 ?k13 ?k14 ?k15 ?_); (case k1 => k_asm); (case k2 => k_asm); (case k3 => k_asm); (case k4 => k_asm); (case k5 => first | exact rfl | assumption); (case k6 => k_asm); (case k7 => (intro o'; k_upd)); (case k8 => k_mem); (case k8b => k_ne); (case k9 => first | assumption | (simp only [List.length_cons, List.length_nil]; omega)); (case k10 => first | assumption | (simp only [List.length_cons, List.length_nil]; omega)); (case k11 => first | assumption | omega); (case k12 => first | assumption | omega); (case k13 => first | assumption | omega); (case k14 => ktr_room); (case k15 => ktr_units); intro v8 x8 y8 tx8 ty8 n8 h8 tk8 hv8 hx8 hy8 hy9 F8 N8; (try dsimp only)))

theorem number_call (w : World) : ∀ {p : Program} {loose : List Str} {mean : ExcName → Option Value} {mg mb : Str → Option Value}
  {dp un : Nat} {gd : Option (List Code)} {cn : Str} {cs : Scope} {a : Addr} {ccd : Value} {cl : List (Str × Addr)} {outer : List Env} {A₀ : Around} {base h₀ : Heap} {L : Addr} {m : Str → Option Value} {s : Shared} {Q E : Value → Shared → Prop}
  {news : List (Addr × Obj)} {sa : Addr} {x y : Int} {tx ty : Tok} {n : Nat}
  (_ : Below A₀ base outer h₀) (_ : Fr h₀ L s.heap m) (_ : Frag.In (Mine.hd.heap_39 w.params) h₀) (_ : Top p loose mean mg mb h₀) (_ : cs.kind = .function)
  (_ : News h₀ L s.heap ((sa, src x y tx ty n) :: news)) (_ : OwnOff news [sa])
  (_ : 0 ≤ x) (_ : 0 ≤ y) (_ : y < 2147483647) (_ : dp + 3 < recursionLimit) (_ : un + 300 < cLine)
  (_ : ∀ (i : Int) (t' : Tok) (x' y' : Int) (tx' ty' : Tok) (n' : Nat) (h' : Heap) (tk : Nat), 0 ≤ x' → 0 ≤ y' → y' < 2147483647 → Fr h₀ L h' m → News h₀ L h' ((sa, src x' y' tx' ty' n') :: news) → Q (.int i t') { s with heap := h', toks := tk }),
  wpAny (model PySem.Challenge.rw_xm0698_01.row.prog w) (ktrTop dp un gd cn cs L a ccd cl outer) (call (.ref 61) [.ref sa]) Q E s := by
  k_fill
  intro p loose mean mg mb dp un gd cn cs a ccd cl outer A₀ base h₀ L m s Q E news sa x y tx ty n B F X T hk N hne hx hy hy1 hd hu hret
  refine wpAny_call ?_
  k_dflt cell_enter
  k_steps
  rename _ ∈ [_, _] => hv9
  rename News h₀ L _ _ => N9
  simp only [List.mem_cons, List.not_mem_nil, or_false] at hv9
  rcases hv9 with e | e
  · rw [e]; refine hret _ _ _ _ _ _ _ _ _ ?_ ?_ ?_ ?_ (fun q hq => N9 q (List.mem_cons_of_mem _ hq)) <;> assumption
  · rw [e]; refine hret _ _ _ _ _ _ _ _ _ ?_ ?_ ?_ ?_ (fun q hq => N9 q (List.mem_cons_of_mem _ hq)) <;> assumption

theorem number_use (w : World) : ∀ {p : Program} {loose : List Str} {mean : ExcName → Option Value} {mg mb : Str → Option Value}
  {dp un : Nat} {gd : Option (List Code)} {cn : Str} {cs : Scope} {a : Addr} {ccd : Value} {cl : List (Str × Addr)} {outer : List Env} {A₀ : Around} {base h₀ : Heap} {L : Addr} {m : Str → Option Value} {s : Shared} {Q E : Value → Shared → Prop}
  {news : List (Addr × Obj)} {news' : Obj → List (Addr × Obj)} {sa : Addr} {x y : Int} {tx ty : Tok} {n : Nat}
  (_ : Below A₀ base outer h₀) (_ : Fr h₀ L s.heap m) (_ : Frag.In (Mine.hd.heap_39 w.params) h₀) (_ : Top p loose mean mg mb h₀) (_ : cs.kind = .function)
  (_ : News h₀ L s.heap news) (_ : ∀ o', Upd sa (src x y tx ty n) o' news (news' o'))
  (_ : 0 ≤ x) (_ : 0 ≤ y) (_ : y < 2147483647) (_ : dp + 3 < recursionLimit) (_ : un + 300 < cLine)
  (_ : ∀ (i : Int) (t' : Tok) (x' y' : Int) (tx' ty' : Tok) (n' : Nat) (h' : Heap) (tk : Nat), 0 ≤ x' → 0 ≤ y' → y' < 2147483647 → Fr h₀ L h' m → News h₀ L h' (news' (src x' y' tx' ty' n')) → Q (.int i t') { s with heap := h', toks := tk }),
  wpAny (model PySem.Challenge.rw_xm0698_01.row.prog w) (ktrTop dp un gd cn cs L a ccd cl outer) (call (.ref 61) [.ref sa]) Q E s := by
  intro p loose mean mg mb dp un gd cn cs a ccd cl outer A₀ base h₀ L m s Q E news news' sa x y tx ty n B F X T hk N U hx hy hy1 hd hu hret
  obtain ⟨rest, hoff, hin, hin2, hout⟩ := upd_rest U
  exact number_call w B F X T hk (fun q hq => N q (hin q hq)) hoff hx hy hy1 hd hu fun i t' x' y' tx' ty' n' h' tk a1 a2 a3 F' N' =>
    hret i t' x' y' tx' ty' n' h' tk a1 a2 a3 F' fun q hq => N' q (hout _ q hq)
end Mine
namespace Mine
theorem lampT3 : True := by
  w_top off
  trivial
theorem great_mul (c : Int) (b : Bool) : 0 ≤ (if -1 - c > c then -1 - c else c) * (if b = true then (1 : Int) else 0) := by
  refine Int.mul_nonneg ?_ ?_
  · split <;> omega
  · split <;> omega
theorem pool_call (w : World) : ∀ {p : Program} {loose : List Str} {mean : ExcName → Option Value} {mg mb : Str → Option Value}
  {dp un : Nat} {gd : Option (List Code)} {cn : Str} {cs : Scope} {a : Addr} {ccd : Value} {cl : List (Str × Addr)} {outer : List Env} {A₀ : Around} {base h₀ : Heap} {L : Addr} {m : Str → Option Value} {s : Shared} {Q E : Value → Shared → Prop}
  {news : List (Addr × Obj)} {l : Addr} {vs : List Value} {ns : List Int}
  (_ : Below A₀ base outer h₀) (_ : Fr h₀ L s.heap m) (_ : Frag.In (Mine.hd.heap_39 w.params) h₀) (_ : Top p loose mean mg mb h₀) (_ : cs.kind = .function)
  (_ : News h₀ L s.heap news) (_ : base.IsList l vs.toArray) (_ : IntsAre vs ns) (_ : ns.length < 2 ^ 62)
  (_ : dp + 1 < recursionLimit) (_ : un + 100 < cLine)
  (_ : ∀ (sa : Addr) (x y : Int) (tx ty : Tok) (n : Nat) (h' : Heap) (tk : Nat), 0 ≤ x → 0 ≤ y → y < 2147483647 → Fr h₀ L h' m → News h₀ L h' ((sa, src x y tx ty n) :: news) → (∀ q ∈ news, q.1 < sa) → Q (.ref sa) { s with heap := h', toks := tk }),
  wpAny (model PySem.Challenge.rw_xm0698_01.row.prog w) (ktrTop dp un gd cn cs L a ccd cl outer) (call (.ref 28) [.ref l]) Q E s := by
  k_fill
  intro p loose mean mg mb dp un gd cn cs a ccd cl outer A₀ base h₀ L m s Q E news l vs ns B F X T hk N hl hi hlen hd hu hret
  refine wpAny_call ?_
  k_dflt cell_enter
  k_steps
  all_goals (rename News h₀ L _ _ => N9; refine hret _ _ _ _ _ _ _ _ ?_ ?_ ?_ ?_ N9 (by assumption))
  · exact great_mul _ _
  · exact Int.fmod_nonneg_of_pos _ (by omega)
  · exact Int.fmod_lt_of_pos _ (by omega)
  · assumption
  · exact great_mul _ _
  · exact Int.fmod_nonneg_of_pos _ (by omega)
  · exact Int.fmod_lt_of_pos _ (by omega)
  · assumption
end Mine
namespace Mine
theorem lampT4 : True := by
  w_top off
  trivial
abbrev tupO (its : Array Value) (n : Nat) : Obj := { cls := .type "tuple", data := .seq its n }

/-- how a turn of a loop over a tuple ends -/
def TEnd (h₀ : Heap) (L : Addr) (x : Str) (m₀ : Str → Option Value) (I : Addr) (oI : Obj) (J : List (Addr × Obj) → Prop) (Q : Flow → Shared → Prop) (s₁ : Shared) (f : Flow) (s₂ : Shared) : Prop :=
  match f with
  | .ret v => Q (.ret v) s₂
  | .brk => Q .next s₂
  | _ => ∃ h' tk' m' nx', s₂ = { s₁ with heap := h', toks := tk' } ∧ Fr h₀ L h' m' ∧ (∀ y, y ≠ x → m' y = m₀ y) ∧ News h₀ L h' ((I, oI) :: nx') ∧ (∀ q ∈ nx', q.1 ≠ I) ∧ J nx'

theorem tend_mk {h₀ h' : Heap} {L : Addr} {x : Str} {m₀ m' : Str → Option Value} {I : Addr} {oI : Obj} {J : List (Addr × Obj) → Prop} {Q : Flow → Shared → Prop} {s₁ : Shared} {news : List (Addr × Obj)} {tk : Nat} (nx' : List (Addr × Obj))
    (F : Fr h₀ L h' m') (hm : ∀ y, y ≠ x → m' y = m₀ y) (N : News h₀ L h' news) (sub : ∀ q ∈ (I, oI) :: nx', q ∈ news) (hI : ∀ q ∈ nx', q.1 ≠ I) (hJ : J nx') : TEnd h₀ L x m₀ I oI J Q s₁ .next { s₁ with heap := h', toks := tk } :=
  ⟨h', tk, m', nx', rfl, F, hm, fun q hq => N q (sub q hq), hI, hJ⟩
section
variable {prog : Program} {w : World} {A : Around} {E : Value → Shared → Prop} {s : Shared} {env : Env} {h₀ : Heap} {x : Str} {body : List Stmt} {Q : Flow → Shared → Prop}
theorem fr_off {L : Addr} {h : Heap} {v : Option Value} {m₁ m₀ : Str → Option Value} (he : ∀ y, y ≠ x → m₁ y = m₀ y) (F : Fr h₀ L h (fun y => if y = x then v else m₁ y)) : Fr h₀ L h (fun y => if y = x then v else m₀ y) := by
  have e : (fun y => if y = x then v else m₁ y) = fun y => if y = x then v else m₀ y := by
    funext y
    by_cases hy : y = x
    · rw [if_pos hy, if_pos hy]
    · rw [if_neg hy, if_neg hy, he y hy]
  rw [e] at F
  exact F
theorem fr_on {L : Addr} {h : Heap} {m₁ m₀ : Str → Option Value} (he : ∀ y, y ≠ x → m₁ y = m₀ y) (F : Fr h₀ L h m₁) : Fr h₀ L h (fun y => if y = x then m₁ y else m₀ y) := by
  have e : (fun y => if y = x then m₁ y else m₀ y) = m₁ := by
    funext y
    by_cases hy : y = x
    · rw [if_pos hy]
    · rw [if_neg hy, he y hy]
  rw [e]
  exact F

theorem tup_loop {t : Addr} {vs : List Value} {nn : Nat} {m₀ : Str → Option Value} {news : List (Addr × Obj)} (J : Nat → List (Addr × Obj) → Prop)
    (hh : A.handled = none) (F : Fr h₀ env.locals s.heap m₀) (N : News h₀ env.locals s.heap news) (hj : J 0 news) (hl : ∀ i nx, J i nx → (t, tupO vs.toArray nn) ∈ nx)
    (turn : ∀ i v nx h tk I oI, vs[i]? = some v → J i nx → (∀ q ∈ nx, q.1 ≠ I) → Fr h₀ env.locals h (fun y => if y = x then some v else m₀ y) → News h₀ env.locals h ((I, oI) :: nx) →
      wpAny (model prog w) A (execs body env) (TEnd h₀ env.locals x m₀ I oI (J (i + 1)) Q { s with heap := h, toks := tk }) E { s with heap := h, toks := tk })
    (done : ∀ (u : Str → Option Value) nx h tk, J vs.length nx → Fr h₀ env.locals h (fun y => if y = x then u y else m₀ y) → News h₀ env.locals h nx → Q .next { s with heap := h, toks := tk }) :
    wpAny (model prog w) A (pyIter (.ref t)) (fun it s₂ => LoopAtV prog w A h₀ env x body Q E it s₂) E s := by
  have hm := hl 0 news hj
  have hot : s.heap.get? t = some (tupO vs.toArray nn) := (N _ hm).1
  have hts : s.heap.IsTuple t vs.toArray := ⟨_, hot, rfl, nn, rfl⟩
  have hne : t ≠ s.heap.objs.size := Nat.ne_of_lt (Heap.lt_size hot)
  have hI0 : h₀.get? s.heap.objs.size = none := next_is_new F
  refine wpAny_pyIter_tuple hts ?_
  have W := Walks.tuple (prog := prog) (w := w) hh s.heap.objs.size t hne vs.toArray
  rw [List.size_toArray] at W
  have hup : ∀ b o, s.heap.get? b = some o → (s.heap.push { cls := .type "tuple_iterator", data := .fields #[.ref t, .int 0 0] }).get? b = some o := fun b o e => Heap.get?_push_of_some _ e
  refine ⟨_, _, _, vs.length, _, _, m₀, news, (fun i m nx => (∀ y, y ≠ x → m y = m₀ y) ∧ J i nx), rfl, W, ?_, ?_, ?_, ⟨⟨_, Heap.get?_push_size _ rfl, rfl, rfl⟩, hts.push _⟩, F.push _, (fun p hp => ⟨hup _ _ (N p hp).1, (N p hp).2⟩), ⟨fun _ _ => rfl, hj⟩, ?_, ?_⟩
  · intro hL
    rcases List.mem_cons.mp hL with e | hL
    · exact absurd F.ns.lt (e ▸ Nat.lt_irrefl _)
    · exact (N _ hm).2.1 ((List.mem_singleton.mp hL).symm)
  · intro b hb
    rw [List.mem_singleton.mp hb]
    exact hI0
  · intro p hp hI
    exact absurd (Heap.lt_size (N p hp).1) ((List.mem_singleton.mp hI) ▸ Nat.lt_irrefl _)
  · rintro i v m₁ nx s₁ own ⟨hh', tk', rfl⟩ hin hP ⟨hm₁, hJ⟩ hoff hown hget hfp hst F₁ N₁
    obtain ⟨⟨oI, hoI, _⟩, _⟩ := id hst
    have hIown : (s.heap.objs.size, oI) ∈ own := hfp _ (List.mem_cons.mpr (.inl rfl)) hI0 _ hoI
    have hnI : ∀ q ∈ nx, q.1 ≠ s.heap.objs.size := fun q hq e => hoff q hq (List.mem_singleton.mpr e)
    have N₂ : News h₀ env.locals hh' ((s.heap.objs.size, oI) :: nx) := fun p hp => by
      rcases List.mem_cons.mp hp with e | hp
      · rw [e]; exact N₁ _ (List.mem_append_left _ hIown)
      · exact N₁ _ (List.mem_append_right _ hp)
    have hP' : vs[i]? = some v := by simpa using hP
    refine wpAny_mono (turn i v nx hh' tk' _ oI hP' hJ hnI (fr_off hm₁ F₁) N₂) (fun f s₂ p => ?_) fun _ _ e => e
    have fin : (∃ h' tk'' m' nx', s₂ = { ({ s with heap := hh', toks := tk' } : Shared) with heap := h', toks := tk'' } ∧ Fr h₀ env.locals h' m' ∧ (∀ y, y ≠ x → m' y = m₀ y) ∧ News h₀ env.locals h' ((s.heap.objs.size, oI) :: nx') ∧ (∀ q ∈ nx', q.1 ≠ s.heap.objs.size) ∧ J (i + 1) nx') →
        LoopStepU h₀ env.locals [s.heap.objs.size] own (fun m nx => (∀ y, y ≠ x → m y = m₀ y) ∧ J (i + 1) nx) { s with heap := hh', toks := tk' } .next s₂ := by
      rintro ⟨h', tk'', m', nx', e, F', hm', N', hI', hJ'⟩
      refine ⟨rfl, h', tk'', m', nx', e, F', fun p hp => ?_, fun p hp hq => hI' p hp (List.mem_singleton.mp hq), hm', hJ'⟩
      rcases List.mem_append.mp hp with hp | hp
      · rcases List.mem_cons.mp (hown p hp) with h1 | h1
        · have : p = (s.heap.objs.size, oI) := by
            have h2 := hget p hp
            rw [h1] at h2
            exact Prod.ext h1 (Option.some.inj (h2.symm.trans hoI))
          rw [this]; exact N' _ List.mem_cons_self
        · have h1 := List.mem_singleton.mp h1
          have h2 := hget p hp
          have h3 := (N₁ _ (List.mem_append_right _ (hl i nx hJ))).1
          rw [h1] at h2
          have : p = (t, tupO vs.toArray nn) := Prod.ext h1 (Option.some.inj (h2.symm.trans h3))
          rw [this]; exact N' _ (List.mem_cons_of_mem _ (hl _ _ hJ'))
      · exact N' p (List.mem_cons_of_mem _ hp)
    cases f with
    | ret v => exact .ret p
    | brk => exact .brk p
    | next => exact .next (fin p)
    | cont => exact .cont (fin p)
  · rintro h' tk m' nx F' N' _ ⟨hm', hJ⟩
    exact done m' nx h' tk hJ (fr_on hm' F') N'
end

/-- the items stand in the ledger as pairs of ints -/
inductive Spots (led : List (Addr × Obj)) : List Value → List (Int × Int) → Prop
  | nil : Spots led [] []
  | cons {a : Addr} {x y : Int} {t u : Tok} {n : Nat} {vs : List Value} {ps : List (Int × Int)} : (a, tupO #[.int x t, .int y u] n) ∈ led → Spots led vs ps → Spots led (.ref a :: vs) ((x, y) :: ps)
theorem Spots.mono {led led' : List (Addr × Obj)} (hs : ∀ q ∈ led, q ∈ led') {vs : List Value} {ps : List (Int × Int)} (h : Spots led vs ps) : Spots led' vs ps := by
  induction h with
  | nil => exact .nil
  | cons hm _ ih => exact .cons (hs _ hm) ih
theorem Spots.length {led : List (Addr × Obj)} {vs : List Value} {ps : List (Int × Int)} (h : Spots led vs ps) : vs.length = ps.length := by
  induction h with
  | nil => rfl
  | cons _ _ ih => rw [List.length_cons, List.length_cons, ih]
theorem Spots.append {led : List (Addr × Obj)} {vs ws : List Value} {ps qs : List (Int × Int)} (h : Spots led vs ps) (k : Spots led ws qs) : Spots led (vs ++ ws) (ps ++ qs) := by
  induction h with
  | nil => exact k
  | cons hm _ ih => exact .cons hm ih
theorem Spots.get {led : List (Addr × Obj)} {vs : List Value} {ps : List (Int × Int)} (h : Spots led vs ps) : ∀ {i : Nat} {v : Value}, vs[i]? = some v → ∃ a p t u n, v = .ref a ∧ ps[i]? = some p ∧ (a, tupO #[.int p.1 t, .int p.2 u] n) ∈ led := by
  induction h with
  | nil => intro i v hv; simp at hv
  | @cons a x y t u n vs ps hm _ ih =>
    intro i v hv
    cases i with
    | zero =>
      simp only [List.getElem?_cons_zero, Option.some.injEq] at hv
      exact ⟨a, (x, y), t, u, n, hv.symm, rfl, hm⟩
    | succ i =>
      simp only [List.getElem?_cons_succ] at hv ⊢
      exact ih hv
theorem Spots.dropLast {led : List (Addr × Obj)} {vs : List Value} {ps : List (Int × Int)} (h : Spots led vs ps) : Spots led vs.dropLast ps.dropLast := by
  induction h with
  | nil => exact .nil
  | @cons a x y t u n vs ps hm h' ih =>
    cases h' with
    | nil => exact .nil
    | cons hm2 h2 =>
      simp only [List.dropLast_cons_cons]
      exact .cons hm ih
/-- the datum of a spot, of a row of spots -/
abbrev pyP (p : Int × Int) : PyData := .tuple [.int p.1, .int p.2]
theorem Spots.reads {h₀ h : Heap} {L : Addr} {led news : List (Addr × Obj)} (N : News h₀ L h news) (hs : ∀ q ∈ led, q ∈ news) {vs : List Value} {ps : List (Int × Int)} (k : Spots led vs ps) : ∃ as, ReadsAll h vs (ps.map pyP) as := by
  induction k with
  | nil => exact ⟨_, .nil⟩
  | @cons a x y t u n vs ps hm _ ih =>
    obtain ⟨as, r⟩ := ih
    exact ⟨_, .cons (.tuple (N _ (hs _ hm)).1 rfl rfl (.cons (.int _ _) (.cons (.int _ _) .nil))) r⟩
theorem pyAll : ∀ ps qs : List (Int × Int), PyData.eqvAll (ps.map pyP) (qs.map pyP) = decide (ps = qs)
  | [], [] => by simp [PyData.eqvAll]
  | [], _ :: _ => by simp [PyData.eqvAll]
  | _ :: _, [] => by simp [PyData.eqvAll]
  | (a, b) :: r, (c, d) :: t => by
    simp only [List.map_cons, PyData.eqvAll, PyData.eqv, pyAll r t]
    by_cases h1 : a = c <;> by_cases h2 : b = d <;> by_cases h3 : r = t <;> simp [h1, h2, h3]
theorem pyLay : ∀ ps : List (Int × Int), PyData.canLayAll0 (ps.map pyP) = true ∧ PyData.depthAll (ps.map pyP) ≤ 1
  | [] => by simp [PyData.canLayAll0, PyData.depthAll]
  | p :: r => by
    have := pyLay r
    simp only [List.map_cons, PyData.canLayAll0, PyData.canLay0, PyData.depthAll, PyData.depth, this.1, Bool.and_self, true_and]
    have := this.2
    omega
end Mine
namespace Mine
theorem lampT5 : True := by
  w_top off
  trivial
abbrev Pt := Int × Int
def stepP (acc : List Pt) (p : Pt) : List Pt := if acc.getLast? = some p then acc else acc ++ [p]
def dd (ps : List Pt) : List Pt := ps.foldl stepP []
theorem dd_snoc {ps : List Pt} {i : Nat} {p : Pt} (h : ps[i]? = some p) : dd (ps.take (i + 1)) = stepP (dd (ps.take i)) p := by
  have e : ps.take (i + 1) = ps.take i ++ [p] := by simp [List.take_add_one, h]
  rw [e, dd, List.foldl_append]; rfl

theorem dd_last2 : ∀ (ps fs : List Pt) (a b : Pt), dd ps = fs ++ [a] ++ [b] → ¬ b = a := by
  have step : ∀ (acc : List Pt) (p : Pt), (∀ fs a b, acc = fs ++ [a] ++ [b] → ¬ b = a) → ∀ fs a b, stepP acc p = fs ++ [a] ++ [b] → ¬ b = a := by
    intro acc p h fs a b e
    unfold stepP at e
    split at e
    · exact h fs a b e
    · rename_i hn
      obtain ⟨e1, e2⟩ := List.append_inj' e rfl
      subst e1
      simp only [List.cons.injEq, and_true] at e2
      subst e2
      intro q
      subst q
      simp at hn
  have all : ∀ (ps acc : List Pt), (∀ fs a b, acc = fs ++ [a] ++ [b] → ¬ b = a) → ∀ fs a b, ps.foldl stepP acc = fs ++ [a] ++ [b] → ¬ b = a := by
    intro ps
    induction ps with
    | nil => intro acc h; exact h
    | cons p ps ih => intro acc h; exact ih _ (step acc p h)
  intro ps
  refine all ps [] ?_
  intro fs a b e
  simp at e
def trim (es : List Pt) : List Pt := if 1 < es.length ∧ es.head? = es.getLast? then es.dropLast else es
def fin (c : Bool) (es : List Pt) : List Pt := if c = true then trim es else es
theorem fin_t {p0 pl : Pt} {fs : List Pt} (h : pl = p0) : fin true (p0 :: (fs ++ [pl])) = p0 :: fs := by
  have e : (p0 :: (fs ++ [pl])).getLast? = some pl := by rw [← List.cons_append, List.getLast?_concat]
  have d : (p0 :: (fs ++ [pl])).dropLast = p0 :: fs := by rw [← List.cons_append, List.dropLast_concat]
  unfold fin trim
  rw [if_pos rfl, if_pos ⟨by simp, by rw [e, h]; rfl⟩, d]
theorem fin_f {p0 pl : Pt} {fs : List Pt} (h : ¬ pl = p0) : fin true (p0 :: (fs ++ [pl])) = p0 :: (fs ++ [pl]) := by
  have e : (p0 :: (fs ++ [pl])).getLast? = some pl := by rw [← List.cons_append, List.getLast?_concat]
  unfold fin trim
  rw [if_pos rfl, if_neg]
  rintro ⟨_, h2⟩
  rw [e] at h2
  exact h (Option.some.inj h2).symm
theorem Spots.cons_inv {led : List (Addr × Obj)} {v : Value} {us : List Value} {es : List Pt} (h : Spots led (v :: us) es) : ∃ b q fs t u n, v = .ref b ∧ es = q :: fs ∧ (b, tupO #[.int q.1 t, .int q.2 u] n) ∈ led ∧ Spots led us fs := by
  cases h with
  | @cons a x y t u n _ ps hm h' => exact ⟨a, (x, y), ps, t, u, n, rfl, rfl, hm, h'⟩
theorem stepP_f {led : List (Addr × Obj)} {us : List Value} {fs : List Pt} {p q : Pt} (h : q = p) (k : Spots led us (fs ++ [q])) : Spots led us (stepP (fs ++ [q]) p) := by
  unfold stepP
  rw [if_pos (by simp [h])]
  exact k
theorem stepP_t {led : List (Addr × Obj)} {us : List Value} {fs : List Pt} {p q : Pt} (h : ¬ q = p) (k : Spots led us (fs ++ [q] ++ [p])) : Spots led us (stepP (fs ++ [q]) p) := by
  unfold stepP
  rw [if_neg (by simp [h])]
  exact k
theorem Spots.nil_inv {led : List (Addr × Obj)} {es : List Pt} (h : Spots led [] es) : es = [] := by cases h; rfl
theorem Spots.snoc_inv {led : List (Addr × Obj)} {v : Value} : ∀ {us : List Value} {es : List Pt}, Spots led (us ++ [v]) es → ∃ fs b q t u n, es = fs ++ [q] ∧ Spots led us fs ∧ v = .ref b ∧ (b, tupO #[.int q.1 t, .int q.2 u] n) ∈ led
  | [], _, h => by
    cases h with
    | @cons a x y t u n _ _ hm h' => cases h'; exact ⟨[], a, (x, y), t, u, n, rfl, .nil, rfl, hm⟩
  | _ :: us, _, h => by
    cases h with
    | @cons a x y t u n _ _ hm h' =>
      obtain ⟨fs, b, q, t', u', n', e, hs, hv, hb⟩ := Spots.snoc_inv h'
      subst e
      exact ⟨_ :: fs, b, q, t', u', n', rfl, .cons hm hs, hv, hb⟩

section
variable {prog : Program} {w : World} {A : Around} {E : Value → Shared → Prop} {s : Shared} {h₀ : Heap} {L a b fa e : Addr} {led news : List (Addr × Obj)} {us : List Value} {es : List Pt} {x y x' y' : Int} {t u t' u' : Tok} {n n' k j : Nat} {Q : Value → Shared → Prop}
theorem reads_spot (N : News h₀ L s.heap news) (ma : (a, tupO #[.int x t, .int y u] n) ∈ news) : Reads s.heap (.ref a) (pyP (x, y)) ([] ++ ([] ++ [])) :=
  .tuple (N _ ma).1 rfl rfl (.cons (.int _ _) (.cons (.int _ _) .nil))
theorem ne_spot (N : News h₀ L s.heap news) (ma : (a, tupO #[.int x t, .int y u] n) ∈ news) (mb : (b, tupO #[.int x' t', .int y' u'] n') ∈ news) (hu : A.units + 64 < cLine)
    (h : Q (.bool (!decide ((x, y) = (x', y')))) s) : wpAny (model prog w) A (compareOp .NotEq (.ref a) (.ref b)) Q E s := by
  refine ne_dataH (reads_spot N ma) (reads_spot N mb) rfl rfl hu ?_
  have := pyAll [(x, y)] [(x', y')]
  simp only [List.map_cons, List.map_nil, PyData.eqvAll, Bool.and_true, List.cons.injEq, and_true] at this
  rw [this]; exact h
theorem eq_spot (N : News h₀ L s.heap news) (ma : (a, tupO #[.int x t, .int y u] n) ∈ news) (mb : (b, tupO #[.int x' t', .int y' u'] n') ∈ news) (hu : A.units + 64 < cLine)
    (h : Q (.bool (decide ((x, y) = (x', y')))) s) : wpAny (model prog w) A (compareOp .Eq (.ref a) (.ref b)) Q E s := by
  refine eq_dataH (reads_spot N ma) (reads_spot N mb) rfl rfl hu ?_
  have := pyAll [(x, y)] [(x', y')]
  simp only [List.map_cons, List.map_nil, PyData.eqvAll, Bool.and_true, List.cons.injEq, and_true] at this
  rw [this]; exact h
theorem ne_spot_t {p q : Pt} (N : News h₀ L s.heap news) (ma : (a, tupO #[.int p.1 t, .int p.2 u] n) ∈ news) (mb : (b, tupO #[.int q.1 t', .int q.2 u'] n') ∈ news) (hu : A.units + 64 < cLine) (hne : ¬ q = p)
    (h : Q (.bool true) s) : wpAny (model prog w) A (compareOp .NotEq (.ref a) (.ref b)) Q E s :=
  ne_spot N ma mb hu (by rw [decide_eq_false (fun e => hne e.symm)]; exact h)
theorem ne_spot_f {p q : Pt} (N : News h₀ L s.heap news) (ma : (a, tupO #[.int p.1 t, .int p.2 u] n) ∈ news) (mb : (b, tupO #[.int q.1 t', .int q.2 u'] n') ∈ news) (hu : A.units + 64 < cLine) (he : q = p)
    (h : Q (.bool false) s) : wpAny (model prog w) A (compareOp .NotEq (.ref a) (.ref b)) Q E s :=
  ne_spot N ma mb hu (by rw [decide_eq_true he.symm]; exact h)
theorem reads_list (N : News h₀ L s.heap news) (ma : (fa, listOf us.toArray k) ∈ news) (hs : Spots led us es) (sub : ∀ q ∈ led, q ∈ news) : ∃ as, Reads s.heap (.ref fa) (.list (es.map pyP)) as := by
  obtain ⟨as, r⟩ := hs.reads N sub
  exact ⟨_, .list (N _ ma).1 rfl rfl (by simpa using r)⟩
theorem shapedL (es : List Pt) : SeqAt.shaped (.list (es.map pyP)) = true := by
  have := pyLay es
  unfold SeqAt.shaped
  simp only [PyData.canLay0, PyData.depth, this.1, Bool.true_and]
  exact decide_eq_true (Nat.le_trans (Nat.add_le_add_right this.2 1) (by decide))
theorem eq_nil_f {v : Value} (N : News h₀ L s.heap news) (ma : (fa, listOf (us ++ [v]).toArray k) ∈ news) (mb : (e, listOf #[] j) ∈ news) (hs : Spots led (us ++ [v]) es) (sub : ∀ q ∈ led, q ∈ news) (hu : A.units + 64 < cLine)
    (h : Q (.bool false) s) : wpAny (model prog w) A (compareOp .Eq (.ref fa) (.ref e)) Q E s := by
  obtain ⟨as, ra⟩ := reads_list N ma hs sub
  refine eq_dataH ra (.list (N _ mb).1 rfl rfl .nil) (shapedL _) rfl hu ?_
  obtain ⟨fs, _, q, _, _, _, e, _⟩ := hs.snoc_inv
  have : PyData.eqv (.list (es.map pyP)) (.list []) = false := by
    have h9 := pyAll es []
    simp only [List.map_nil] at h9
    simp only [PyData.eqv, h9]
    rw [e]
    simp
  rw [this]; exact h
theorem last_item {value slice : PySem.Expr} {v : Value} {k' : Tok} (N : News h₀ L s.heap news) (ma : (fa, listOf (us ++ [v]).toArray k) ∈ news) (hz : us.length < 2 ^ 20) (h : Q v s)
    (hs : subscripted slice false (.ref fa) (.int (-1) k') = operate [.ref fa, .int (-1) k'] (getItem (.ref fa) (.int (-1) k')) := by with_unfolding_all rfl) :
    wpAny (model prog w) A (subscriptTail value slice (.ref fa) (.int (-1) k')) Q E s := by
  refine kde_neg (j := us.length) ⟨_, (N _ ma).1, rfl, k, rfl⟩ (by decide) (by decide) ?_ (by simp) h hs
  have h1 : (-1 : Int) < 0 := by decide
  simp only [seqIndex?, List.length_append, List.length_cons, List.length_nil, if_pos h1]
  rw [if_pos (by simp; omega)]
  congr 1
  omega
end
section
variable {prog : Program} {w : World} {A : Around} {E : Value → Shared → Prop} {s : Shared} {h₀ : Heap} {L a b fa e : Addr} {m : Str → Option Value} {led news news' : List (Addr × Obj)} {us : List Value} {t u t' u' : Tok} {n n' k j : Nat} {Q : Value → Shared → Prop} {p q : Pt} {v : Value}
theorem eq_spot_t (N : News h₀ L s.heap news) (ma : (a, tupO #[.int p.1 t, .int p.2 u] n) ∈ news) (mb : (b, tupO #[.int q.1 t', .int q.2 u'] n') ∈ news) (hu : A.units + 64 < cLine) (he : p = q)
    (h : Q (.bool true) s) : wpAny (model prog w) A (compareOp .Eq (.ref a) (.ref b)) Q E s :=
  eq_spot N ma mb hu (by rw [decide_eq_true he]; exact h)
theorem eq_spot_f (N : News h₀ L s.heap news) (ma : (a, tupO #[.int p.1 t, .int p.2 u] n) ∈ news) (mb : (b, tupO #[.int q.1 t', .int q.2 u'] n') ∈ news) (hu : A.units + 64 < cLine) (he : ¬ p = q)
    (h : Q (.bool false) s) : wpAny (model prog w) A (compareOp .Eq (.ref a) (.ref b)) Q E s :=
  eq_spot N ma mb hu (by rw [decide_eq_false he]; exact h)
theorem item0 {value slice : PySem.Expr} {k' : Tok} (N : News h₀ L s.heap news) (ma : (fa, listOf us.toArray k) ∈ news) (hx : us[0]? = some v) (h : Q v s)
    (hs : subscripted slice false (.ref fa) (.int 0 k') = operate [.ref fa, .int 0 k'] (getItem (.ref fa) (.int 0 k')) := by with_unfolding_all rfl) :
    wpAny (model prog w) A (subscriptTail value slice (.ref fa) (.int 0 k')) Q E s := by
  have hl : s.heap.IsList fa us.toArray := ⟨_, (N _ ma).1, rfl, k, rfl⟩
  exact tail_any hl.typeIs slot_list_getitem.lookup (wpAny_getItem_list hl (by decide) (by decide) (by simpa using hx) h) hs
theorem len_is {n : Nat} (N : News h₀ L s.heap news) (hm : (fa, listOf us.toArray k) ∈ news) (hn : us.length = n) (hfit : us.length < 2 ^ 20)
    (h : Q (.int (n : Int) (s.toks + 1)) { s with toks := s.toks + 1 + 1 }) : wpAny (model prog w) A (call (.builtin "len") [.ref fa]) Q E s :=
  kst_len N hm hn (by omega) h
theorem pop_any (F : Fr h₀ L s.heap m) (N : News h₀ L s.heap news) (U : Upd fa (listOf (us ++ [v]).toArray k) (listOf us.toArray (k + 1)) news news') (hz : (us ++ [v]).length < 2 ^ 20)
    (h : ∀ h', Fr h₀ L h' m → News h₀ L h' news' → Q v { s with heap := h' }) : wpAny (model prog w) A (call (.builtin "list.pop") [.ref fa]) Q E s :=
  kl_pop F N (kpa_last v us) U (by rw [PySem.sizeLine_eq]; show (us ++ [v]).length ≤ _; omega) h
end
theorem sub_tail {q₁ : Addr × Obj} {led news : List (Addr × Obj)} (h : ∀ q ∈ led, q ∈ news) : ∀ q ∈ led, q ∈ q₁ :: news := fun q hq => List.mem_cons_of_mem _ (h q hq)
theorem sub_self {led : List (Addr × Obj)} : ∀ q ∈ led, q ∈ led := fun _ h => h

local macro_rules | `(tactic| k_mem) => `(tactic| first | assumption | exact List.mem_cons_self | (refine' List.mem_cons_of_mem _ ?_; k_mem))
local macro_rules | `(tactic| k_all) => `(tactic| first | assumption | (refine' List.forall_mem_cons.mpr ⟨?a, ?b⟩; (case a => first | assumption | k_ne); (case b => k_all)))
local macro_rules | `(tactic| walk_at "exec For Name Name cons nil") => `(tactic| (k_here; (rename Fr _ _ _ _ => lF'); (with_unfolding_all refine' For_invVF lF' ?k1 ?k2 ?_; (case k1 => exact rfl); (case k2 => exact rfl); k_whole)))
local macro_rules | `(tactic| walk_at "compareOp Eq ref ref") => `(tactic| (k_here; k_dflt (refine' eq_nil_f ?k1 ?k2 ?k3 ?k4 ?k5 ?k6 ?_); (case k1 => k_asm); (case k2 => k_mem); (case k3 => k_mem); (case k4 => assumption); (case k5 => (repeat' (first | exact sub_self | refine sub_tail ?_))); (case k6 => ktr_units)))
local macro_rules | `(tactic| walk_at "compareOp NotEq ref ref") => `(tactic| (k_here; first
  | (k_dflt (refine' ne_spot_t ?k1 ?k2 ?k3 ?k4 ?k5 ?_); (case k1 => k_asm); (case k2 => k_mem); (case k3 => k_mem); (case k4 => ktr_units); (case k5 => assumption))
  | (k_dflt (refine' ne_spot_f ?j1 ?j2 ?j3 ?j4 ?j5 ?_); (case j1 => k_asm); (case j2 => k_mem); (case j3 => k_mem); (case j4 => ktr_units); (case j5 => assumption))))
local macro_rules | `(tactic| walk_at "subscriptTail Name UnaryOp ref int") => `(tactic| (k_here; k_dflt (refine' last_item ?k1 ?k2 ?k3 ?_); (case k1 => k_asm); (case k2 => k_mem); (case k3 => first | assumption | (simp only [List.length_append, List.length_cons, List.length_nil]; omega))))

local macro_rules | `(tactic| walk_at "compareOp Eq ref ref") => `(tactic| (k_here; first
  | (k_dflt (refine' eq_spot_t ?k1 ?k2 ?k3 ?k4 ?k5 ?_); (case k1 => k_asm); (case k2 => k_mem); (case k3 => k_mem); (case k4 => ktr_units); (case k5 => assumption))
  | (k_dflt (refine' eq_spot_f ?j1 ?j2 ?j3 ?j4 ?j5 ?_); (case j1 => k_asm); (case j2 => k_mem); (case j3 => k_mem); (case j4 => ktr_units); (case j5 => assumption))))
local macro_rules | `(tactic| walk_at "subscriptTail Name Constant ref int") => `(tactic| (k_here; k_dflt (refine' item0 ?k1 ?k2 ?k3 ?_); (case k1 => k_asm); (case k2 => k_mem); (case k3 => rfl)))
local macro_rules | `(tactic| walk_at "call builtin:len") => `(tactic| (k_here; k_dflt (refine' len_is ?k1 ?k2 ?k3 ?k4 ?_); (case k1 => k_asm); (case k2 => k_mem); (case k3 => first | assumption | rfl); (case k4 => (simp only [List.length_append, List.length_cons, List.length_nil]; omega))))
local macro_rules | `(tactic| walk_at "call builtin:list.pop") => `(tactic| (k_here; k_dflt (refine' pop_any ?k1 ?k2 ?k3 ?k4 ?_); (case k1 => k_asm); (case k2 => k_asm); (case k3 => k_upd); (case k4 => (simp only [List.length_append, List.length_cons, List.length_nil]; omega)); intro h8 F8 N8))
local macro_rules | `(tactic| walk_at "exec While BoolOp") => `(tactic| (k_here; k_dflt (refine whl_start 100 ?_)))
theorem plain_call (w : World) : ∀ {p : Program} {loose : List Str} {mean : ExcName → Option Value} {mg mb : Str → Option Value}
  {dp un : Nat} {gd : Option (List Code)} {cn : Str} {cs : Scope} {a : Addr} {ccd : Value} {cl : List (Str × Addr)} {outer : List Env} {A₀ : Around} {base h₀ : Heap} {L : Addr} {m : Str → Option Value} {s : Shared} {Q E : Value → Shared → Prop}
  {news : List (Addr × Obj)} {ca ta : Addr} {c : Bool} {nc nt : Nat} {vs : List Value} {ps : List (Int × Int)}
  (_ : Below A₀ base outer h₀) (_ : Fr h₀ L s.heap m) (_ : Frag.In (Mine.hd.heap_39 w.params) h₀) (_ : Top p loose mean mg mb h₀) (_ : cs.kind = .function)
  (_ : News h₀ L s.heap ((ca, tupO #[.ref ta, .bool c] nc) :: (ta, tupO vs.toArray nt) :: news)) (_ : Spots news vs ps) (_ : vs.length < 1000)
  (_ : dp + 1 < recursionLimit) (_ : un + 200 < cLine)
  (_ : ∀ (ra fa : Addr) (us : List Value) (b : Bool) (k nr : Nat) (h' : Heap) (tk : Nat), Spots news us (fin c (dd ps)) → us.length ≤ vs.length → b = (c && decide (1 < (dd ps).length)) → Fr h₀ L h' m →
    News h₀ L h' ((ra, tupO #[.ref fa, .bool b] nr) :: (fa, listOf us.toArray k) :: (ca, tupO #[.ref ta, .bool c] nc) :: (ta, tupO vs.toArray nt) :: news) →
    (∀ q ∈ news, q.1 < fa) → ca < fa → ta < fa → fa < ra → Q (.ref ra) { s with heap := h', toks := tk }),
  wpAny (model PySem.Challenge.rw_xm0698_01.row.prog w) (ktrTop dp un gd cn cs L a ccd cl outer) (call (.ref 21) [.ref ca]) Q E s := by
  k_fill
  intro p loose mean mg mb dp un gd cn cs a ccd cl outer A₀ base h₀ L m s Q E news ca ta c nc nt vs ps B F X T hk N hsp hlen hd hu hret
  refine wpAny_call ?_
  k_dflt cell_enter
  k_steps
  rename_i fa hx1 l1 hx2 F9 N9
  have hfa1 : ∀ q ∈ news, q.1 < fa := fun q hq => kst_ltOf l1.2.2 q hq
  have hfa2 : ca < fa := l1.1
  have hfa3 : ta < fa := l1.2.1
  have hnf : ∀ q ∈ news, q.1 ≠ fa := fun q hq => Nat.ne_of_lt (kst_ltOf l1.2.2 q hq)
  have hcf : ca ≠ fa := Nat.ne_of_lt l1.1
  have htf : ta ≠ fa := Nat.ne_of_lt l1.2.1
  clear l1
  refine tup_loop (t := ta) (vs := vs) (nn := nt) (fun i nx => ∃ us k, nx = (fa, listOf us.toArray k) :: (ca, tupO #[.ref ta, .bool c] nc) :: (ta, tupO vs.toArray nt) :: news ∧ us.length ≤ i ∧ Spots news us (dd (ps.take i))) (by rfl) F9 N9 ⟨[], 0, rfl, Nat.le_refl _, .nil⟩ (by rintro i nx ⟨us, k, rfl, _, _⟩; simp) ?_ ?_
  · clear F9 N9
    rintro i v nx h tk I oI hv ⟨us, k, rfl, hul, hs⟩ hI F9 N9
    have hiv : i < vs.length := (List.getElem?_eq_some_iff.mp hv).1
    obtain ⟨ra, p, rt, ru, rn, rfl, hp, hm⟩ := hsp.get hv
    rw [dd_snoc hp]
    generalize dd (List.take i ps) = es at hs ⊢
    have hIf : I ≠ fa := fun e => hI _ List.mem_cons_self e.symm
    rcases (List.eq_nil_or_concat us) with rfl | ⟨us, v, rfl⟩
    · have := hs.nil_inv
      subst this
      dsimp only
      show wpAny _ _ _ _ _ _
      k_fold
      k_steps
      rename Fr _ _ _ _ => F8
      rename News _ _ _ _ => N8
      refine tend_mk ((fa, listOf ([Value.ref ra]).toArray (k + 1)) :: (ca, tupO #[.ref ta, .bool c] nc) :: (ta, tupO vs.toArray nt) :: news) F8 (fun y hy => if_neg hy) N8 (fun q hq => List.mem_cons_of_mem _ hq) ?_ ⟨_, _, rfl, by simp, Spots.cons hm .nil⟩
      intro q hq
      rcases List.mem_cons.mp hq with rfl | hq
      · exact fun e => hIf e.symm
      · exact hI q (List.mem_cons_of_mem _ hq)
    · rw [List.concat_eq_append] at *
      have hs0 := hs
      have hul' : us.length < 2 ^ 20 := by simp at hul; omega
      obtain ⟨fs, rb, q, t2, u2, n2, rfl, hsf, rfl, hmb⟩ := hs0.snoc_inv
      by_cases hpq : q = p
      · show wpAny _ _ _ _ _ _
        k_fold
        k_steps
        rename Fr _ _ _ _ => F8
        rename News _ _ _ _ => N8
        refine tend_mk ((fa, listOf (us ++ [Value.ref rb]).toArray k) :: (ca, tupO #[.ref ta, .bool c] nc) :: (ta, tupO vs.toArray nt) :: news) F8 (fun y hy => if_neg hy) N8 (fun q hq => List.mem_cons_of_mem _ hq) ?_ ⟨_, _, rfl, by omega, stepP_f hpq hs⟩
        intro q hq
        rcases List.mem_cons.mp hq with rfl | hq
        · exact fun e => hIf e.symm
        · exact hI q (List.mem_cons_of_mem _ hq)
      · show wpAny _ _ _ _ _ _
        k_fold
        k_steps
        rename Fr _ _ _ _ => F8
        rename News _ _ _ _ => N8
        rw [List.push_toArray] at N8
        refine tend_mk ((fa, listOf (us ++ [Value.ref rb] ++ [Value.ref ra]).toArray (k + 1)) :: (ca, tupO #[.ref ta, .bool c] nc) :: (ta, tupO vs.toArray nt) :: news) F8 (fun y hy => if_neg hy) N8 (fun q hq => List.mem_cons_of_mem _ hq) ?_ ⟨_, _, rfl, by simp at hul ⊢; omega, stepP_t hpq (hs.append (Spots.cons hm .nil))⟩
        intro q hq
        rcases List.mem_cons.mp hq with rfl | hq
        · exact fun e => hIf e.symm
        · exact hI q (List.mem_cons_of_mem _ hq)
  · rintro u nx h tk ⟨us, k, rfl, hul, hs⟩ F9 N9
    rw [hsp.length, List.take_length] at hs
    show wpAny _ _ _ _ _ _
    have hadj := fun fs a b => dd_last2 ps fs a b
    generalize dd ps = es at hs hadj hret
    have hz : vs.length < 2 ^ 20 := by omega
    cases c
    · (try k_fold)
      k_steps
      rename Fr h₀ L _ _ => F8
      rename News h₀ L _ _ => N8
      rename (_ < _) ∧ _ => l8
      exact hret _ _ _ _ _ _ _ _ (hs) (hul) (rfl) F8 N8 hfa1 hfa2 hfa3 l8.1
    · rcases us with _ | ⟨v0, us⟩
      · have := hs.nil_inv
        subst this
        have hlE : ([] : List Value).length = 0 := rfl
        (try k_fold)
        k_steps
        rename Fr h₀ L _ _ => F8
        rename News h₀ L _ _ => N8
        rename (_ < _) ∧ _ => l8
        exact hret _ _ _ _ _ _ _ _ (Spots.nil) (Nat.zero_le _) (rfl) F8 N8 hfa1 hfa2 hfa3 l8.1
      · obtain ⟨r0, p0, e1, t0, u0, n0, rfl, rfl, hm0, hs1⟩ := hs.cons_inv
        rcases List.eq_nil_or_concat us with rfl | ⟨mid, vl, rfl⟩
        · have := hs1.nil_inv
          subst this
          have hlE : [Value.ref r0].length = 1 := rfl
          (try k_fold)
          k_steps
          rename Fr h₀ L _ _ => F8
          rename News h₀ L _ _ => N8
          rename (_ < _) ∧ _ => l8
          exact hret _ _ _ _ _ _ _ _ (Spots.cons hm0 .nil) (hul) (rfl) F8 N8 hfa1 hfa2 hfa3 l8.1
        · rw [List.concat_eq_append] at *
          have hs2 := hs1
          obtain ⟨fs, rl, pl, tl, ul, nl, rfl, hsf, rfl, hml⟩ := hs2.snoc_inv
          by_cases hpq : pl = p0
          · rcases List.eq_nil_or_concat mid with rfl | ⟨mid, vm, rfl⟩
            · have := hsf.nil_inv
              subst this
              exact absurd hpq (hadj [] p0 pl rfl)
            · rw [List.concat_eq_append] at *
              have hs3 := hsf
              obtain ⟨gs, rm, pm, tm, um, nm, rfl, hsg, rfl, hmm⟩ := hs3.snoc_inv
              have hpm : ¬ pm = p0 := fun e => hadj (p0 :: gs) pm pl rfl (hpq.trans e.symm)
              change News _ _ h ((fa, listOf ((((Value.ref r0 :: mid) ++ [Value.ref rm]) ++ [Value.ref rl])).toArray k) :: _) at N9
              have hlE : (((Value.ref r0 :: mid) ++ [Value.ref rm]) ++ [Value.ref rl]).length = mid.length + 3 := by simp
              have hsm : mid.length < 1000 := by simp at hul; omega
              have hlF : ((Value.ref r0 :: mid) ++ [Value.ref rm]).length = mid.length + 2 := by simp
              (try k_fold)
              k_steps
              rename Fr h₀ L _ _ => F8
              rename News h₀ L _ _ => N8
              rename (_ < _) ∧ _ => l8
              exact hret _ _ _ _ _ _ _ _ (by rw [fin_t hpq]; exact Spots.cons hm0 hsf) (by simp at hul ⊢; omega) (by rw [decide_eq_true (by omega), decide_eq_true (by simp)]; rfl) F8 N8 hfa1 hfa2 hfa3 l8.1
          · change News _ _ h ((fa, listOf (((Value.ref r0 :: mid) ++ [Value.ref rl])).toArray k) :: _) at N9
            have hlE : ((Value.ref r0 :: mid) ++ [Value.ref rl]).length = mid.length + 2 := by simp
            have hsm : mid.length < 1000 := by simp at hul; omega
            (try k_fold)
            k_steps
            rename Fr h₀ L _ _ => F8
            rename News h₀ L _ _ => N8
            rename (_ < _) ∧ _ => l8
            exact hret _ _ _ _ _ _ _ _ (by rw [fin_f hpq]; exact hs) (hul) (by rw [decide_eq_true (by omega), decide_eq_true (by simp)]; rfl) F8 N8 hfa1 hfa2 hfa3 l8.1
end Mine
namespace Mine
open PyProof.Rows.LCg
theorem lampT6 : True := by
  w_top off
  trivial
abbrev ZSt (z TI TO i1 i2 l1 l2 : Addr) (xs ys : Array Value) (i : Nat) (h : Heap) : Prop :=
  IsZip h z TI TO .none ∧ IsPair h TI (.ref i1) (.ref i2) ∧ (∃ a b, IsPair h TO a b) ∧ h.IsListIter i1 l1 i ∧ h.IsListIter i2 l2 i ∧ h.IsList l1 xs ∧ h.IsList l2 ys
def zfil (zs : List (Pt × Pt)) : List Pt := (zs.filter fun r => decide (r.1 ≠ r.2)).map (·.1)
theorem zfil_t {zs : List (Pt × Pt)} {i : Nat} {p q : Pt} (h : zs[i]? = some (p, q)) (hn : ¬ p = q) : zfil (zs.take (i + 1)) = zfil (zs.take i) ++ [p] := by
  have e : zs.take (i + 1) = zs.take i ++ [(p, q)] := by simp [List.take_add_one, h]
  simp [e, zfil, hn]
theorem zfil_f {zs : List (Pt × Pt)} {i : Nat} {p q : Pt} (h : zs[i]? = some (p, q)) (hn : p = q) : zfil (zs.take (i + 1)) = zfil (zs.take i) := by
  have e : zs.take (i + 1) = zs.take i ++ [(p, q)] := by simp [List.take_add_one, h]
  simp [e, zfil, hn]

section
variable {prog : Program} {w : World} {A : Around} {E : Value → Shared → Prop} {s : Shared} {env : Env} {h₀ : Heap} {L : Addr} {m : Str → Option Value}
def ZSrc (h₀ : Heap) (L : Addr) (m : Str → Option Value) (news : List (Addr × Obj)) (ps qs : List Pt) (Q : Value → Shared → Prop) (xv : Value) (s₁ : Shared) : Prop :=
  ∃ (z TI TO i1 i2 l1 l2 : Addr) (vs ws : List Value), xv = .ref z ∧ ZipApart z TI TO i1 i2 l1 l2 ∧ ZSt z TI TO i1 i2 l1 l2 vs.toArray ws.toArray 0 s₁.heap ∧ Fr h₀ L s₁.heap m ∧ News h₀ L s₁.heap news ∧
    (∀ b ∈ [z, TO, i1, i2], L ≠ b ∧ h₀.get? b = none ∧ ∀ q ∈ news, q.1 ≠ b) ∧ Spots news vs ps ∧ Spots news ws qs ∧ vs.length < 1000 ∧
    ∀ D ys h' tk, Fr h₀ L h' m → News h₀ L h' ((D, lst ys) :: news) → (∀ q ∈ news, q.1 < D) → Spots news ys (zfil (ps.zip qs)) → ys.length ≤ vs.length → Q (.ref D) { s₁ with heap := h', toks := tk }

theorem zip_comp {iter : PySem.Expr} {x y : Str} {p1 pa pb tp pl pr pc pos : Pos} {kk : Nat} {scope : Scope} {cl : List (Str × Addr)} {news : List (Addr × Obj)} {ps qs : List Pt} {Q : Value → Shared → Prop}
    (_F : Fr h₀ L s.heap m) (hh : A.handled = none) (hu : A.units + 64 < cLine)
    (hclos : closureFor scope env = pure cl) (hcell : ∀ y ∈ scope.names, y.2 ≠ .cell) (hkind : scope.kind = .function)
    (hnames : ∀ y ∈ scope.names, y.2 = .local → scope.names.lookup y.1 = some .local) (hxa : scope.names.lookup x = some .local) (hxb : scope.names.lookup y = some .local) (hab : ¬ x = y)
    (hxd : (x == ("__debug__" : Str)) = false) (hyd : (y == ("__debug__" : Str)) = false)
    (h : wpAny (model prog w) A (eval iter env) (ZSrc h₀ L m news ps qs Q) E s)
    (hs : ∀ x, foldedSetIterable iter env x = pure x := by intro _; rfl) :
    wpAny (model prog w) A (eval (.ListComp (.Name x p1) [⟨.Tuple [.Name x pa, .Name y pb] kk tp, iter, [.Compare (.Name x pl) [.NotEq] [.Name y pr] pc], 0⟩] scope pos) env) Q E s := by
  rw [eval_ListComp]
  refine wpAny_comprehension_free (use := none) rfl hs hclos hkind hnames (wpAny_mono h (fun xv s₁ h₁ => ?_) fun _ _ e => e)
  obtain ⟨z, TI, TO, i1, i2, l1, l2, vs, ws, rfl, D, hst, F, N, hwr, hsv, hsw, hlen, cont⟩ := h₁
  refine wpAny_pyIter_zip hst.1 ?_
  refine wpAny_newObj_type (wpAny_newFunctionEnv hcell (by intro y hy; simp at hy) (fun h₁ hns₁ hsb₁ => ?_) hkind)
  dsimp only at hns₁ hsb₁ ⊢
  have hzlt : z < s₁.heap.objs.size := Heap.lt_size hst.1
  have hTOlt : TO < s₁.heap.objs.size := by obtain ⟨_, _, ⟨_, _, e⟩, _⟩ := hst; exact Heap.lt_size e
  have hi1lt : i1 < s₁.heap.objs.size := by obtain ⟨_, _, _, ⟨_, e, _⟩, _⟩ := hst; exact Heap.lt_size e
  have hi2lt : i2 < s₁.heap.objs.size := by obtain ⟨_, _, _, _, ⟨_, e, _⟩, _⟩ := hst; exact Heap.lt_size e
  have hwlt : ∀ b ∈ [z, TO, i1, i2], b < s₁.heap.objs.size := by
    intro b hb
    simp only [List.mem_cons, List.not_mem_nil, or_false] at hb
    rcases hb with rfl | rfl | rfl | rfl <;> assumption
  generalize hH2 : s₁.heap.push { cls := .type "list", dict := none, data := .seq ([] : List Value).toArray } = H2 at hns₁ hsb₁ ⊢
  have hC : H2.objs.size = s₁.heap.objs.size + 1 := by rw [← hH2, Heap.size_push]
  have hDC : s₁.heap.objs.size ≠ H2.objs.size := by rw [hC]; exact Nat.ne_of_lt (Nat.lt_succ_self _)
  have below : ∀ b, b < s₁.heap.objs.size → b ≠ H2.objs.size ∧ b ≠ s₁.heap.objs.size := fun b hb => ⟨by rw [hC]; exact Nat.ne_of_lt (Nat.lt_succ_of_lt hb), Nat.ne_of_lt hb⟩
  have old : ∀ b o, s₁.heap.get? b = some o → h₁.get? b = some o := fun b o e => hsb₁.extBut b o (below b (Heap.lt_size e)).1 (Heap.get?_push_of_some _ (hH2 ▸ Heap.get?_push_of_some _ e))
  have hacc : h₁.get? s₁.heap.objs.size = some (lst []) := hsb₁.extBut _ _ hDC (Heap.get?_push_of_some _ (hH2 ▸ Heap.get?_push_size _ rfl))
  have W := WalksT.zip2 (prog := prog) (w := w) hh z TI TO i1 i2 l1 l2 D vs.toArray ws.toArray
  have hzl : (ps.zip qs).length = min vs.toArray.size ws.toArray.size := by rw [List.length_zip, List.size_toArray, List.size_toArray, hsv.length, hsw.length]
  generalize hn : min vs.toArray.size ws.toArray.size = n at W hzl
  have hnv : n ≤ vs.length := by rw [← hn, List.size_toArray]; exact Nat.min_le_left _ _
  have loop : ∀ s₃ : Shared, s₃ = { s₁ with heap := h₁, toks := s₁.toks + ([] : List (Str × Value)).length } →
      codeAny (model prog w) A (.compLoop (.ListComp (.Name x p1) [⟨.Tuple [.Name x pa, .Name y pb] kk tp, iter, [.Compare (.Name x pl) [.NotEq] [.Name y pr] pc], 0⟩] scope pos) 0 (.ref z) (.ref s₁.heap.objs.size) (compEnvC scope cl H2.objs.size env))
        (compPost (model prog w) A E none Q (.ref s₁.heap.objs.size) H2.objs.size) s₃ := by
    rintro s₃ rfl
    refine kct_loop
      (fun k s' => ∃ h' tk i ys m', s' = { s₁ with heap := h', toks := tk } ∧ i ≤ n ∧ k = n + 1 - i ∧ ys.length ≤ i ∧ ZSt z TI TO i1 i2 l1 l2 vs.toArray ws.toArray i h' ∧ h'.Ns H2.objs.size m' ∧
        h'.get? s₁.heap.objs.size = some (lst ys) ∧ (∀ b o, b ∉ [z, TO, i1, i2] → s₁.heap.get? b = some o → h'.get? b = some o) ∧ Spots news ys (zfil ((ps.zip qs).take i))) ?_ (n + 1)
      ⟨h₁, _, 0, [], _, rfl, Nat.zero_le _, rfl, Nat.le_refl _, ?_, hns₁, hacc, fun b o _ e => old b o e, .nil⟩
    · rintro k s' ⟨h', tk, i, ys, m', rfl, hi, rfl, hyl, hst', hn', hDh, hkeep, hsp⟩
      by_cases hlt : i < n
      · refine W.item i _ _ _ hlt hst' fun T vals h₂ tk₂ hP hTg hT hM hk₂ => ?_
        refine W.go _ _ _ i T _ _ _ hM fun h₃ hst₃ hk₃ => ?_
        obtain ⟨v1, v2, hv1, hv2, rfl⟩ := hP
        have hTw := W.apart i T h₂ hM
        have hT₃ : h₃.IsTuple T #[v1, v2] := by obtain ⟨o, e, r⟩ := hT; exact ⟨o, hk₃ T o hTw e, r⟩
        have up₃ : ∀ c o, c ∉ [z, TO, i1, i2] → h'.get? c = some o → h₃.get? c = some o := fun c o hc e => hk₃ c o hc (hk₂ c o hc e)
        have hCw : H2.objs.size ∉ [z, TO, i1, i2] := fun hm => absurd (hwlt _ hm) (by rw [hC]; exact Nat.not_lt.mpr (Nat.le_succ _))
        have hDw : s₁.heap.objs.size ∉ [z, TO, i1, i2] := fun hm => absurd (hwlt _ hm) (Nat.lt_irrefl _)
        refine kcp_assign (env := compEnvC scope cl H2.objs.size env) hh hT₃ (lookup_relabel_local hxa) (lookup_relabel_local hxb) (by simp [compEnvC, relabel, hkind]) (hn'.at' fun o e => up₃ _ o hCw e) fun h₄ tk₄ hn₄ hs₄ => ?_
        have up₄ : ∀ c o, c ∉ [z, TO, i1, i2] → c ≠ H2.objs.size → h'.get? c = some o → h₄.get? c = some o := fun c o h1 h2 e => hs₄ c o h2 (up₃ c o h1 e)
        have hz₄ : ∀ c o, c < s₁.heap.objs.size → h₃.get? c = some o → h₄.get? c = some o := fun c o hc e => hs₄ c o (below c hc).1 e
        have hst₄ : ZSt z TI TO i1 i2 l1 l2 vs.toArray ws.toArray (i + 1) h₄ := by
          refine W.frame _ _ _ hst₃ fun b hb o e => hz₄ b o ?_ e
          obtain ⟨_, e2, _, _, _, ⟨_, e6, _⟩, ⟨_, e7, _⟩⟩ := hst
          simp only [List.mem_cons, List.not_mem_nil, or_false] at hb
          rcases hb with rfl | rfl | rfl | rfl | rfl | rfl | rfl
          · exact hzlt
          · exact Heap.lt_size e2
          · exact hTOlt
          · exact hi1lt
          · exact hi2lt
          · exact Heap.lt_size e6
          · exact Heap.lt_size e7
        have keep₄ : ∀ b o, b ∉ [z, TO, i1, i2] → s₁.heap.get? b = some o → h₄.get? b = some o := fun b o hb e => up₄ b o hb (below b (Heap.lt_size e)).1 (hkeep b o hb e)
        have hD₄ : h₄.get? s₁.heap.objs.size = some (lst ys) := up₄ _ _ hDw hDC hDh
        have N₄ : News h₀ L h₄ news := fun q hq => ⟨keep₄ _ _ (fun hm => (hwr _ hm).2.2 q hq rfl) (N q hq).1, (N q hq).2⟩
        obtain ⟨a1, q1, t1, u1, n1, rfl, hp1, hm1⟩ := hsv.get (i := i) (v := v1) (by simpa using hv1)
        obtain ⟨a2, q2, t2, u2, n2, rfl, hp2, hm2⟩ := hsw.get (i := i) (v := v2) (by simpa using hv2)
        have hzi : (ps.zip qs)[i]? = some (q1, q2) := by rw [List.getElem?_zip_eq_some]; exact ⟨hp1, hp2⟩
        have nk : (compEnvC scope cl H2.objs.size env).scope.kind = .function := hkind
        refine wpAny_isTrue_Compare1 ?_
        refine wpAny_Name (wpAny_loadName_local nk (lookup_relabel_local hxa) hn₄ (v := .ref a1) (by simp [hab]) ?_) hxd
        refine wpAny_Name (wpAny_loadName_local nk (lookup_relabel_local hxb) hn₄ (v := .ref a2) (by simp) ?_) hyd
        by_cases hpq : q1 = q2
        · refine ne_spot_f N₄ hm1 hm2 hu hpq.symm ?_
          refine wpAny_truthy_bool ?_
          simp only [Bool.false_eq_true, if_false]
          exact ⟨n + 1 - (i + 1), by omega, h₄, _, i + 1, ys, _, rfl, hlt, rfl, Nat.le_succ_of_le hyl, hst₄, hn₄, hD₄, keep₄, by rw [zfil_f hzi hpq]; exact hsp⟩
        · refine ne_spot_t N₄ hm1 hm2 hu (fun e => hpq e.symm) ?_
          refine wpAny_truthy_bool ?_
          simp only [if_true]
          refine wpAny_Name (wpAny_loadName_local nk (lookup_relabel_local hxa) hn₄ (v := .ref a1) (by simp [hab]) ?_) hxd
          refine append_at (hsz := by rw [List.size_toArray, PySem.sizeLine_eq]; omega) hD₄ fun h₅ hs₅ hD₅ => ?_
          refine ⟨n + 1 - (i + 1), by omega, h₅, _, i + 1, ys ++ [.ref a1], _, rfl, hlt, rfl, by simp; omega, ?_, hn₄.at' (fun o e => hs₅.extBut _ o (Ne.symm hDC) e), hD₅.trans (congrArg some (lst_snoc ys _)), fun b o hb e => hs₅.extBut b o (below b (Heap.lt_size e)).2 (keep₄ b o hb e), ?_⟩
          · refine W.frame _ _ _ hst₄ fun b hb o e => hs₅.extBut b o ?_ e
            obtain ⟨_, e2, _, _, _, ⟨_, e6, _⟩, ⟨_, e7, _⟩⟩ := hst
            refine Nat.ne_of_lt ?_
            simp only [List.mem_cons, List.not_mem_nil, or_false] at hb
            rcases hb with rfl | rfl | rfl | rfl | rfl | rfl | rfl
            · exact hzlt
            · exact Heap.lt_size e2
            · exact hTOlt
            · exact hi1lt
            · exact hi2lt
            · exact Heap.lt_size e6
            · exact Heap.lt_size e7
          · rw [zfil_t hzi hpq]
            exact hsp.append (.cons hm1 .nil)
      · have hin : i = n := Nat.le_antisymm hi (Nat.not_lt.mp hlt)
        subst hin
        refine W.done _ _ _ hst' fun h₂ tk₂ hk₂ => ?_
        have hCw : H2.objs.size ∉ [z, TO, i1, i2] := fun hm => absurd (hwlt _ hm) (by rw [hC]; exact Nat.not_lt.mpr (Nat.le_succ _))
        have hDw : s₁.heap.objs.size ∉ [z, TO, i1, i2] := fun hm => absurd (hwlt _ hm) (Nat.lt_irrefl _)
        refine ⟨m', hn'.at' fun o e => hk₂ _ o hCw e, fun h'' hs'' => ?_⟩
        have kp : ∀ b o, b ∉ [z, TO, i1, i2] → s₁.heap.get? b = some o → h''.get? b = some o := fun b o hb e => hs''.extBut b o (below b (Heap.lt_size e)).1 (hk₂ b o hb (hkeep b o hb e))
        have hD'' : h''.get? s₁.heap.objs.size = some (lst ys) := hs''.extBut _ _ hDC (hk₂ _ _ hDw hDh)
        have hlt0 : L < s₁.heap.objs.size := F.ns.lt
        have hDnone : h₀.get? s₁.heap.objs.size = none := next_is_new F
        refine cont s₁.heap.objs.size ys h'' tk₂ ⟨F.ns.at' fun o e => kp L o (fun hm => (hwr _ hm).1 rfl) e, fun b o e => kp b o (fun hm => by have := (hwr b hm).2.1; rw [this] at e; cases e) (F.keep b o e), F.above⟩ (fun q hq => ?_) (fun q hq => Heap.lt_size (N q hq).1) (by rw [← hzl, List.take_length] at hsp; exact hsp) (Nat.le_trans hyl hnv)
        rcases List.mem_cons.mp hq with rfl | hq
        · exact ⟨hD'', Ne.symm (Nat.ne_of_lt hlt0), hDnone⟩
        · exact ⟨kp _ _ (fun hm => (hwr _ hm).2.2 q hq rfl) (N q hq).1, (N q hq).2⟩
    · exact W.frame _ _ _ hst fun b _ o e => old b o e
  exact codeAny_compStart_list (loop _ rfl) (wpAny_pyIter_zip (old _ _ hst.1) (loop _ rfl))
end
end Mine
namespace Mine
theorem lampT7 : True := by
  w_top off
  trivial
theorem pick_tail (l : List Value) : kms_pick l (some 1) none = l.drop 1 := by
  unfold kms_pick kms_lo kms_hi
  simp only [show ¬ ((1 : Int) < 0) by decide, if_false]
  rw [show (1 : Int).toNat = 1 from rfl]
  rcases l with _ | ⟨v, l⟩
  · rfl
  · have : min 1 (v :: l).length = 1 := by simp
    rw [this]
    simp
theorem pick_last (l : List Value) : kms_pick l (some (-1)) none = l.drop (l.length - 1) := by
  unfold kms_pick kms_lo kms_hi
  simp only [show ((-1 : Int) < 0) by decide, if_true]
  rw [show (- (-1 : Int)).toNat = 1 from rfl]
  rw [List.take_of_length_le]
  simp
theorem pick_init (l : List Value) : kms_pick l none (some (-1)) = l.dropLast := by
  unfold kms_pick kms_lo kms_hi
  simp only [show ((-1 : Int) < 0) by decide, if_true]
  rw [show (- (-1 : Int)).toNat = 1 from rfl]
  simp [List.dropLast_eq_take]
theorem Spots.drop {led : List (Addr × Obj)} {vs : List Value} {ps : List Pt} (h : Spots led vs ps) : ∀ n : Nat, Spots led (vs.drop n) (ps.drop n) := by
  induction h with
  | nil => intro n; simp only [List.drop_nil]; exact .nil
  | cons hm h ih =>
    intro n
    cases n with
    | zero => exact .cons hm h
    | succ n => exact ih n
def ends (ps : List Pt) : List Pt := zfil (ps.zip (ps.drop 1)) ++ ps.drop (ps.length - 1)

theorem zip_list {prog : Program} {w : World} {A : Around} {E : Value → Shared → Prop} {s : Shared} {h₀ : Heap} {L l1 l2 : Addr} {m : Str → Option Value} {news : List (Addr × Obj)} {xs ys : List Value} {n1 n2 : Nat} {Q : Value → Shared → Prop}
    (F : Fr h₀ L s.heap m) (N : News h₀ L s.heap news) (h1 : (l1, listOf xs.toArray n1) ∈ news) (h2 : (l2, listOf ys.toArray n2) ∈ news)
    (k : ∀ h' z TI TO i1 i2, ZipApart z TI TO i1 i2 l1 l2 → ZSt z TI TO i1 i2 l1 l2 xs.toArray ys.toArray 0 h' → Fr h₀ L h' m → News h₀ L h' news →
      (∀ b ∈ [z, TO, i1, i2], L ≠ b ∧ h₀.get? b = none ∧ ∀ q ∈ news, q.1 ≠ b) → Q (.ref z) { s with heap := h' }) :
    wpAny (model prog w) A (call (.type "zip") [.ref l1, .ref l2]) Q E s := by
  refine zip_rows F ⟨_, (N _ h1).1, rfl, n1, rfl⟩ ⟨_, (N _ h2).1, rfl, n2, rfl⟩ fun h' z TI TO i1 i2 D st F' hk a1 a2 a3 a4 hL => k h' z TI TO i1 i2 D st F' (fun q hq => ⟨hk _ _ (N q hq).1, (N q hq).2⟩) ?_
  have hge : ∀ b ∈ [z, TO, i1, i2], s.heap.objs.size ≤ b := by
    intro b hb
    simp only [List.mem_cons, List.not_mem_nil, or_false] at hb
    rcases hb with rfl | rfl | rfl | rfl <;> assumption
  intro b hb
  have hb' := hge b hb
  refine ⟨Nat.ne_of_lt (Nat.lt_of_lt_of_le F.ns.lt hb'), ?_, fun q hq => Nat.ne_of_lt (Nat.lt_of_lt_of_le (Heap.lt_size (N q hq).1) hb')⟩
  exact Heap.get?_none_of_le (Nat.le_trans F.above (Nat.le_trans (Nat.le_of_lt F.ns.lt) hb'))
local macro_rules | `(tactic| k_mem) => `(tactic| first | assumption | exact List.mem_cons_self | (refine' List.mem_cons_of_mem _ ?_; k_mem))
theorem isl_of {h₀ h : Heap} {L l : Addr} {news : List (Addr × Obj)} {xs : List Value} {n : Nat} (N : News h₀ L h news) (hm : (l, listOf xs.toArray n) ∈ news) : h.IsList l xs.toArray := ⟨_, (N _ hm).1, rfl, n, rfl⟩
local macro_rules | `(tactic| walk_at "call type:zip") => `(tactic| (k_here; k_dflt (refine' zip_list ?k1 ?k2 ?k3 ?k4 ?_); (case k1 => k_asm); (case k2 => k_asm); (case k3 => k_mem); (case k4 => k_mem); intro h8 z8 TI8 TO8 ia8 ib8 D8 st8 F8 N8 hw8))
local macro_rules | `(tactic| walk_at "subscriptTail Name Slice ref ref") => `(tactic| (k_here; k_dflt (refine' kms_slice_lit ?F ?N ?l ?p ?q ?e ?_ ?s ?t ?z; (case F => k_asm); (case N => k_asm); (case l => (refine' isl_of ?l1 ?l2; (case l1 => k_asm); (case l2 => k_mem))); (case p => kmk_part); (case q => kmk_part); (case e => first | exact pick_tail _ | exact pick_last _ | exact pick_init _); (case s => with_unfolding_all rfl); (case t => kmk_pure); (case z => (rw [List.size_toArray, PySem.sizeLine_eq]; omega))); intro D' h' F' N' l1; (try k_sweep)))
local macro_rules | `(tactic| walk_at "binaryOp Add ref ref") => `(tactic| (k_here; k_dflt (refine' kmk_add_lit ?F ?N ?a ?b ?e ?_ ?z; (case F => k_asm); (case N => k_asm); (case a => (refine' isl_of ?a1 ?a2; (case a1 => k_asm); (case a2 => k_mem))); (case b => (refine' isl_of ?b1 ?b2; (case b1 => k_asm); (case b2 => k_mem))); (case e => exact rfl); (case z => ((rw [PySem.sizeLine_eq]); (simp only [List.length_drop]); omega))); intro D' h' F' N' l1; (try k_sweep)))

theorem ends_call (w : World) : ∀ {p : Program} {loose : List Str} {mean : ExcName → Option Value} {mg mb : Str → Option Value}
  {dp un : Nat} {gd : Option (List Code)} {cn : Str} {cs : Scope} {a : Addr} {ccd : Value} {cl : List (Str × Addr)} {outer : List Env} {A₀ : Around} {base h₀ : Heap} {L : Addr} {m : Str → Option Value} {s : Shared} {Q E : Value → Shared → Prop}
  {news : List (Addr × Obj)} {ra : Addr} {nr : Nat} {vs : List Value} {ps : List (Int × Int)}
  (_ : Below A₀ base outer h₀) (_ : Fr h₀ L s.heap m) (_ : Frag.In (Mine.hd.heap_39 w.params) h₀) (_ : Top p loose mean mg mb h₀) (_ : cs.kind = .function)
  (_ : News h₀ L s.heap news) (_ : (ra, listOf vs.toArray nr) ∈ news) (_ : Spots news vs ps) (_ : vs.length < 1000)
  (_ : dp + 1 < recursionLimit) (_ : un + 200 < cLine)
  (_ : ∀ (D : Addr) (us : List Value) (k : Nat) (h' : Heap) (tk : Nat), Spots news us (ends ps) → us.length < 2001 → Fr h₀ L h' m → News h₀ L h' ((D, listOf us.toArray k) :: news) → (∀ q ∈ news, q.1 < D) → Q (.ref D) { s with heap := h', toks := tk }),
  wpAny (model PySem.Challenge.rw_xm0698_01.row.prog w) (ktrTop dp un gd cn cs L a ccd cl outer) (call (.ref 47) [.ref ra]) Q E s := by
  k_fill
  intro p loose mean mg mb dp un gd cn cs a ccd cl outer A₀ base h₀ L m s Q E news ra nr vs ps B F X T hk N hra hsp hlen hd hu hret
  refine wpAny_call ?_
  k_dflt cell_enter
  iterate 4 (first | walk1 | (dsimp only; walk1))
  rename Fr _ _ _ _ => F9
  k_dflt (refine zip_comp (news := news) (ps := ps) (qs := ps.drop 1) F9 (by rfl) (by ktr_units) (by rfl) (by decide) (by rfl) (by decide) (by rfl) (by rfl) (by decide) (by decide) (by decide) ?_)
  k_steps
  rename_i h8 z8 TI8 TO8 ia8 ib8 D8 st8 F8 N8 hw8
  refine ⟨z8, TI8, TO8, ia8, ib8, _, _, vs, vs.drop 1, rfl, D8, st8, F8, fun q hq => N8 q (List.mem_cons_of_mem _ hq), fun b hb => ⟨(hw8 b hb).1, (hw8 b hb).2.1, fun q hq => (hw8 b hb).2.2 q (List.mem_cons_of_mem _ hq)⟩, hsp, hsp.drop 1, hlen, ?_⟩
  clear st8 F8 N8 hw8
  intro D7 ys7 h7 tk7 F7 N7 lt7 hs7 hl7
  show wpAny _ _ _ _ _ _
  (try k_fold)
  k_steps
  rename Fr h₀ L _ _ => F5
  rename News h₀ L _ _ => N5
  rename (∀ p ∈ (_, _) :: (_, _) :: news, _) => lt5
  refine hret _ (ys7 ++ vs.drop (vs.length - 1)) 0 _ _ ?_ ?_ F5 (fun q hq => N5 q ?_) (fun q hq => lt5 q (List.mem_cons_of_mem _ (List.mem_cons_of_mem _ hq)))
  · have e := hsp.drop (vs.length - 1)
    rw [show ps.drop (vs.length - 1) = ps.drop (ps.length - 1) by rw [hsp.length]] at e
    exact hs7.append e
  · rw [List.length_append, List.length_drop]; omega
  · rcases List.mem_cons.mp hq with rfl | hq
    · exact List.mem_cons_self
    · exact List.mem_cons_of_mem _ (List.mem_cons_of_mem _ (List.mem_cons_of_mem _ hq))
end Mine
namespace Mine
theorem lampT8 : True := by
  w_top off
  trivial
theorem pick_init_snoc (l : List Value) (v : Value) : kms_pick (l ++ [v]) none (some (-1)) = l := by rw [pick_init, List.dropLast_concat]

theorem news_drop3 {h₀ h : Heap} {L : Addr} {a b c : Addr × Obj} {news : List (Addr × Obj)} (N : News h₀ L h (a :: b :: c :: news)) : News h₀ L h (a :: b :: news) := by
  intro q hq
  refine N q ?_
  rcases List.mem_cons.mp hq with rfl | hq
  · exact List.mem_cons_self
  · rcases List.mem_cons.mp hq with rfl | hq
    · exact List.mem_cons_of_mem _ List.mem_cons_self
    · exact List.mem_cons_of_mem _ (List.mem_cons_of_mem _ (List.mem_cons_of_mem _ hq))
theorem trim_one (es : List Pt) (p : Pt) (h : es = [p]) : trim es = [p] := by subst h; simp [trim]
theorem ends_split (w : World) : ∀ {p : Program} {loose : List Str} {mean : ExcName → Option Value} {mg mb : Str → Option Value}
  {dp un : Nat} {gd : Option (List Code)} {cn : Str} {cs : Scope} {a : Addr} {ccd : Value} {cl : List (Str × Addr)} {outer : List Env} {A₀ : Around} {base h₀ : Heap} {L : Addr} {m : Str → Option Value} {s : Shared} {Q E : Value → Shared → Prop}
  {news : List (Addr × Obj)} {ra : Addr} {nr : Nat} {vs : List Value} {ps : List (Int × Int)}
  (_ : Below A₀ base outer h₀) (_ : Fr h₀ L s.heap m) (_ : Frag.In (Mine.hd.heap_39 w.params) h₀) (_ : Top p loose mean mg mb h₀) (_ : cs.kind = .function)
  (_ : News h₀ L s.heap news) (_ : (ra, listOf vs.toArray nr) ∈ news) (_ : Spots news vs ps) (_ : vs.length < 1000)
  (_ : dp + 1 < recursionLimit) (_ : un + 200 < cLine)
  (_ : ∀ (D : Addr) (k : Nat) (h' : Heap) (tk : Nat), ends ps = [] → ([] : List Value).length = 0 → Fr h₀ L h' m → News h₀ L h' ((D, listOf ([] : List Value).toArray k) :: news) → (∀ q ∈ news, q.1 < D) → Q (.ref D) { s with heap := h', toks := tk })
  (_ : ∀ (D : Addr) (k : Nat) (h' : Heap) (tk : Nat) (r0 : Addr) (p0 : Pt) (t0 u0 : Tok) (n0 : Nat), ends ps = [p0] → (r0, tupO #[.int p0.1 t0, .int p0.2 u0] n0) ∈ news → [Value.ref r0].length = 1 → Fr h₀ L h' m → News h₀ L h' ((D, listOf [Value.ref r0].toArray k) :: news) → (∀ q ∈ news, q.1 < D) → Q (.ref D) { s with heap := h', toks := tk })
  (_ : ∀ (D : Addr) (k : Nat) (h' : Heap) (tk : Nat) (r0 rl : Addr) (p0 pl : Pt) (t0 u0 tl ul : Tok) (n0 nl : Nat) (mid : List Value) (fs : List Pt), ends ps = p0 :: (fs ++ [pl]) → ¬ p0 = pl → (r0, tupO #[.int p0.1 t0, .int p0.2 u0] n0) ∈ news → (rl, tupO #[.int pl.1 tl, .int pl.2 ul] nl) ∈ news →
    Spots news mid fs → mid.length < 2001 → ((Value.ref r0 :: mid) ++ [Value.ref rl]).length = mid.length + 2 → Fr h₀ L h' m → News h₀ L h' ((D, listOf ((Value.ref r0 :: mid) ++ [Value.ref rl]).toArray k) :: news) → (∀ q ∈ news, q.1 < D) → Q (.ref D) { s with heap := h', toks := tk })
  (_ : ∀ (D : Addr) (k : Nat) (h' : Heap) (tk : Nat) (r0 rl : Addr) (p0 pl : Pt) (t0 u0 tl ul : Tok) (n0 nl : Nat) (mid : List Value) (fs : List Pt), ends ps = p0 :: (fs ++ [pl]) → p0 = pl → (r0, tupO #[.int p0.1 t0, .int p0.2 u0] n0) ∈ news → (rl, tupO #[.int pl.1 tl, .int pl.2 ul] nl) ∈ news →
    Spots news mid fs → mid.length < 2001 → ((Value.ref r0 :: mid) ++ [Value.ref rl]).length = mid.length + 2 → (Value.ref r0 :: mid).length = mid.length + 1 → Fr h₀ L h' m → News h₀ L h' ((D, listOf ((Value.ref r0 :: mid) ++ [Value.ref rl]).toArray k) :: news) → (∀ q ∈ news, q.1 < D) → Q (.ref D) { s with heap := h', toks := tk }),
  wpAny (model PySem.Challenge.rw_xm0698_01.row.prog w) (ktrTop dp un gd cn cs L a ccd cl outer) (call (.ref 47) [.ref ra]) Q E s := by
  intro p loose mean mg mb dp un gd cn cs a ccd cl outer A₀ base h₀ L m s Q E news ra nr vs ps B F X T hk N hra hsp hlen hd hu c0 c1 c2 c3
  refine ends_call w B F X T hk N hra hsp hlen hd hu ?_
  intro D us k h' tk hs hl F' N' lt
  rcases us with _ | ⟨v0, us⟩
  · exact c0 D k h' tk hs.nil_inv rfl F' N' lt
  · obtain ⟨r0, p0, e1, t0, u0, n0, rfl, he, hm0, hs1⟩ := hs.cons_inv
    rcases List.eq_nil_or_concat us with rfl | ⟨mid, vl, rfl⟩
    · have := hs1.nil_inv
      subst this
      exact c1 D k h' tk r0 p0 t0 u0 n0 he hm0 rfl F' N' lt
    · rw [List.concat_eq_append] at *
      obtain ⟨fs, rl, pl, tl, ul, nl, rfl, hsf, rfl, hml⟩ := hs1.snoc_inv
      have hml' : mid.length < 2001 := by simp at hl; omega
      by_cases hpq : p0 = pl
      · exact c3 D k h' tk r0 rl p0 pl t0 u0 tl ul n0 nl mid fs he hpq hm0 hml hsf hml' (by simp) (by simp) F' N' lt
      · exact c2 D k h' tk r0 rl p0 pl t0 u0 tl ul n0 nl mid fs he hpq hm0 hml hsf hml' (by simp) F' N' lt

local macro_rules | `(tactic| k_mem) => `(tactic| first | assumption | exact List.mem_cons_self | (refine' List.mem_cons_of_mem _ ?_; k_mem))
local macro_rules | `(tactic| walk_at "compareOp Eq ref ref") => `(tactic| (k_here; first
  | (k_dflt (refine' eq_spot_t ?k1 ?k2 ?k3 ?k4 ?k5 ?_); (case k1 => k_asm); (case k2 => k_mem); (case k3 => k_mem); (case k4 => ktr_units); (case k5 => assumption))
  | (k_dflt (refine' eq_spot_f ?j1 ?j2 ?j3 ?j4 ?j5 ?_); (case j1 => k_asm); (case j2 => k_mem); (case j3 => k_mem); (case j4 => ktr_units); (case j5 => assumption))))
local macro_rules | `(tactic| walk_at "subscriptTail Name Constant ref int") => `(tactic| (k_here; k_dflt (refine' item0 ?k1 ?k2 ?k3 ?_); (case k1 => k_asm); (case k2 => k_mem); (case k3 => rfl)))
local macro_rules | `(tactic| walk_at "subscriptTail Name UnaryOp ref int") => `(tactic| (k_here; k_dflt (refine' last_item ?k1 ?k2 ?k3 ?_); (case k1 => k_asm); (case k2 => k_mem); (case k3 => first | assumption | (simp only [List.length_append, List.length_cons, List.length_nil]; omega))))
local macro_rules | `(tactic| walk_at "call builtin:len") => `(tactic| (k_here; k_dflt (refine' len_is ?k1 ?k2 ?k3 ?k4 ?_); (case k1 => k_asm); (case k2 => k_mem); (case k3 => assumption); (case k4 => (simp only [List.length_append, List.length_cons, List.length_nil]; omega))))
local macro_rules | `(tactic| walk_at "subscriptTail Name Slice ref ref") => `(tactic| (k_here; k_dflt (refine' kms_slice_lit ?F ?N ?l ?p ?q ?e ?_ ?s ?t ?z; (case F => k_asm); (case N => k_asm); (case l => (refine' isl_of ?l1 ?l2; (case l1 => k_asm); (case l2 => k_mem))); (case p => kmk_part); (case q => kmk_part); (case e => exact pick_init_snoc _ _); (case s => with_unfolding_all rfl); (case t => kmk_pure); (case z => (rw [List.size_toArray, PySem.sizeLine_eq]; simp only [List.length_append, List.length_cons, List.length_nil]; omega))); intro D' h' F' N' l1; (try k_sweep)))
local macro_rules | `(tactic| walk_at "call ref") => `(tactic| (k_here; (with_reducible show wpAny _ _ (call (Value.ref 47) [Value.ref _]) _ _ _); k_dflt (refine' ends_split _ ?k1 ?k2 ?k3 ?k4 ?k5 ?k6 ?k7 ?k8 ?k9 ?k10 ?k11 ?_ ?_ ?_ ?_); (case k1 => k_asm); (case k2 => k_asm); (case k3 => k_asm); (case k4 => k_asm); (case k5 => first | exact rfl | assumption); (case k6 => k_asm); (case k7 => k_mem); (case k8 => assumption); (case k9 => assumption); (case k10 => ktr_room); (case k11 => ktr_units); all_goals ((try intro D8 k8 h8 tk8 r08 rl8 p08 pl8 t08 u08 tl8 ul8 n08 nl8 mid8 fs8 he8 hp8 hm8 hm9 hs8 hl8 hE8 hF8 F8 N8 lt8); (try intro D8 k8 h8 tk8 r08 rl8 p08 pl8 t08 u08 tl8 ul8 n08 nl8 mid8 fs8 he8 hp8 hm8 hm9 hs8 hl8 hE8 F8 N8 lt8); (try intro D8 k8 h8 tk8 r08 p08 t08 u08 n08 he8 hm8 hE8 F8 N8 lt8); (try intro D8 k8 h8 tk8 he8 hE8 F8 N8 lt8))))

theorem closed_call (w : World) : ∀ {p : Program} {loose : List Str} {mean : ExcName → Option Value} {mg mb : Str → Option Value}
  {dp un : Nat} {gd : Option (List Code)} {cn : Str} {cs : Scope} {a : Addr} {ccd : Value} {cl : List (Str × Addr)} {outer : List Env} {A₀ : Around} {base h₀ : Heap} {L : Addr} {m : Str → Option Value} {s : Shared} {Q E : Value → Shared → Prop}
  {news : List (Addr × Obj)} {ra : Addr} {nr : Nat} {vs : List Value} {ps : List (Int × Int)}
  (_ : Below A₀ base outer h₀) (_ : Fr h₀ L s.heap m) (_ : Frag.In (Mine.hd.heap_39 w.params) h₀) (_ : Top p loose mean mg mb h₀) (_ : cs.kind = .function)
  (_ : News h₀ L s.heap news) (_ : (ra, listOf vs.toArray nr) ∈ news) (_ : Spots news vs ps) (_ : vs.length < 1000)
  (_ : dp + 2 < recursionLimit) (_ : un + 300 < cLine)
  (_ : ∀ (ta fa : Addr) (us : List Value) (b : Bool) (k nt : Nat) (h' : Heap) (tk : Nat), Spots news us (trim (ends ps)) → b = decide (1 < (trim (ends ps)).length) → Fr h₀ L h' m → News h₀ L h' ((ta, tupO #[.ref fa, .bool b] nt) :: (fa, listOf us.toArray k) :: news) → Q (.ref ta) { s with heap := h', toks := tk }),
  wpAny (model PySem.Challenge.rw_xm0698_01.row.prog w) (ktrTop dp un gd cn cs L a ccd cl outer) (call (.ref 54) [.ref ra]) Q E s := by
  k_fill
  intro p loose mean mg mb dp un gd cn cs a ccd cl outer A₀ base h₀ L m s Q E news ra nr vs ps B F X T hk N hra hsp hlen hd hu hret
  refine wpAny_call ?_
  k_dflt cell_enter
  k_steps
  · rename Fr h₀ L _ _ => F5
    rename News h₀ L _ _ => N5
    rename ends ps = _ => he
    have ht : trim (ends ps) = [] := by rw [he]; rfl
    refine hret _ _ _ _ _ _ _ _ ?_ ?_ F5 N5
    · rw [ht]; exact .nil
    · rw [ht]; rfl
  · rename Fr h₀ L _ _ => F5
    rename News h₀ L _ _ => N5
    rename ends ps = _ => he
    rename (_, _) ∈ news => hm0
    have ht := trim_one _ _ he
    refine hret _ _ _ _ _ _ _ _ ?_ ?_ F5 N5
    · rw [ht]; exact .cons hm0 .nil
    · rw [ht]; rfl
  · rename_i D8 k8 h8 tk8 r08 rl8 p08 pl8 t08 u08 tl8 ul8 n08 nl8 mid8 fs8 he hp8 hm8 hm9 hs8 hl8 hE8 F8 N8 lt8 h1 D9 h2 N9 l9 F5 N5 Tc9 kX9
    have ht : trim (ends ps) = p08 :: (fs8 ++ [pl8]) := by rw [he]; exact fin_f (fun e => hp8 e.symm)
    refine hret _ _ _ _ _ _ _ _ ?_ ?_ F5 N5
    · rw [ht]; exact .cons hm8 (hs8.append (.cons hm9 .nil))
    · rw [ht, decide_eq_true (by omega), decide_eq_true (by simp)]
  · rename Fr h₀ L _ _ => F5
    rename News h₀ L _ _ => N5
    rename ends ps = _ => he
    rename @Eq (Int × Int) _ _ => hpl
    rename Spots news _ _ => hs8
    rename (_, _) ∈ news => hm9
    clear hm9
    rename (_, _) ∈ news => hm8
    have ht := (congrArg trim he).trans (fin_t hpl.symm)
    refine hret _ _ _ _ _ _ _ _ ?_ ?_ F5 (news_drop3 N5)
    · rw [ht]; exact .cons hm8 hs8
    · rw [ht, List.length_cons, ← hs8.length]
      rcases Nat.lt_or_ge 1 (List.length _ + 1) with h | h
      · rw [decide_eq_true h, decide_eq_true (by omega)]
      · rw [decide_eq_false (Nat.not_lt.mpr h), decide_eq_false (by omega)]
end Mine
namespace Mine
theorem lampT9 : True := by
  w_top off
  trivial
-- the plain law: the ends of the runs are the first ones of the runs, by value
theorem ends_cons2 (p q : Pt) (r : List Pt) : ends (p :: q :: r) = (if p = q then [] else [p]) ++ ends (q :: r) := by
  unfold ends zfil
  simp only [List.drop_succ_cons, List.drop_zero, List.zip_cons_cons, List.length_cons, Nat.add_sub_cancel]
  by_cases h : p = q
  · simp [h]
  · simp [h]
theorem foldl_ends : ∀ (ps a : List Pt) (x : Pt), ps.foldl stepP (a ++ [x]) = a ++ ends (x :: ps)
  | [], a, x => by simp [ends, zfil]
  | p :: ps, a, x => by
    rw [List.foldl_cons, ends_cons2]
    unfold stepP
    by_cases h : x = p
    · subst h
      rw [if_pos (by simp), if_pos rfl, List.nil_append]
      exact foldl_ends ps a x
    · rw [if_neg (by simpa using h), if_neg h]
      have e := foldl_ends ps (a ++ [x]) p
      unfold stepP at e
      rw [e, List.append_assoc]
theorem dd_ends : ∀ ps : List Pt, dd ps = ends ps
  | [] => rfl
  | p :: ps => by
    unfold dd
    rw [List.foldl_cons]
    exact foldl_ends ps [] p

section
variable {prog : Program} {w : World} {A : Around} {E : Value → Shared → Prop} {s : Shared} {h₀ : Heap} {L a b fa fb : Addr} {l₁ l₂ news : List (Addr × Obj)} {us us' : List Value} {es es' : List Pt} {c c' : Bool} {n n' k k' : Nat} {Q : Value → Shared → Prop}
theorem reads_res (N : News h₀ L s.heap news) (ma : (a, tupO #[.ref fa, .bool c] n) ∈ news) (mf : (fa, listOf us.toArray k) ∈ news) (hs : Spots l₁ us es) (sub : ∀ q ∈ l₁, q ∈ news) :
    ∃ as, Reads s.heap (.ref a) (.tuple [.list (es.map pyP), .bool c]) as := by
  obtain ⟨as, r⟩ := reads_list N mf hs sub
  exact ⟨_, .tuple (N _ ma).1 rfl rfl (.cons r (.cons (.bool _) .nil))⟩
theorem shapedR (es : List Pt) (c : Bool) : SeqAt.shaped (.tuple [.list (es.map pyP), .bool c]) = true := by
  have := pyLay es
  unfold SeqAt.shaped
  simp only [PyData.canLay0, PyData.canLayAll0, PyData.depth, PyData.depthAll, this.1, Bool.true_and]
  refine decide_eq_true ?_
  have h2 := this.2
  refine Nat.le_trans (m := 3) ?_ (by decide)
  omega
theorem eqvR (es es' : List Pt) (c c' : Bool) (he : es = es') (hc : c = c') : PyData.eqv (.tuple [.list (es.map pyP), .bool c]) (.tuple [.list (es'.map pyP), .bool c']) = true := by
  subst he hc
  simp only [PyData.eqv, PyData.eqvAll, pyAll]
  simp
theorem res_ne (N : News h₀ L s.heap news) (ma : (a, tupO #[.ref fa, .bool c] n) ∈ news) (mf : (fa, listOf us.toArray k) ∈ news) (hs : Spots l₁ us es) (sub : ∀ q ∈ l₁, q ∈ news)
    (mb : (b, tupO #[.ref fb, .bool c'] n') ∈ news) (mg : (fb, listOf us'.toArray k') ∈ news) (hs' : Spots l₂ us' es') (sub' : ∀ q ∈ l₂, q ∈ news) (hu : A.units + 64 < cLine) (he : es = es') (hc : c = c')
    (h : Q (.bool false) s) : wpAny (model prog w) A (compareOp .NotEq (.ref a) (.ref b)) Q E s := by
  obtain ⟨as, ra⟩ := reads_res N ma mf hs sub
  obtain ⟨bs, rb⟩ := reads_res N mb mg hs' sub'
  exact ne_dataH ra rb (shapedR _ _) (shapedR _ _) hu (by rw [eqvR _ _ _ _ he hc]; exact h)
theorem res_eq (N : News h₀ L s.heap news) (ma : (a, tupO #[.ref fa, .bool c] n) ∈ news) (mf : (fa, listOf us.toArray k) ∈ news) (hs : Spots l₁ us es) (sub : ∀ q ∈ l₁, q ∈ news)
    (mb : (b, tupO #[.ref fb, .bool c'] n') ∈ news) (mg : (fb, listOf us'.toArray k') ∈ news) (hs' : Spots l₂ us' es') (sub' : ∀ q ∈ l₂, q ∈ news) (hu : A.units + 64 < cLine) (he : es = es') (hc : c = c')
    (h : Q (.bool true) s) : wpAny (model prog w) A (compareOp .Eq (.ref a) (.ref b)) Q E s := by
  obtain ⟨as, ra⟩ := reads_res N ma mf hs sub
  obtain ⟨bs, rb⟩ := reads_res N mb mg hs' sub'
  exact eq_dataH ra rb (shapedR _ _) (shapedR _ _) hu (by rw [eqvR _ _ _ _ he hc]; exact h)
end

theorem plain_use (w : World) : ∀ {p : Program} {loose : List Str} {mean : ExcName → Option Value} {mg mb : Str → Option Value}
  {dp un : Nat} {gd : Option (List Code)} {cn : Str} {cs : Scope} {a : Addr} {ccd : Value} {cl : List (Str × Addr)} {outer : List Env} {A₀ : Around} {base h₀ : Heap} {L : Addr} {m : Str → Option Value} {s : Shared} {Q E : Value → Shared → Prop}
  {news : List (Addr × Obj)} {ca ta : Addr} {c : Bool} {nc nt : Nat} {vs : List Value} {ps : List (Int × Int)}
  (_ : Below A₀ base outer h₀) (_ : Fr h₀ L s.heap m) (_ : Frag.In (Mine.hd.heap_39 w.params) h₀) (_ : Top p loose mean mg mb h₀) (_ : cs.kind = .function)
  (_ : News h₀ L s.heap news) (_ : (ca, tupO #[.ref ta, .bool c] nc) ∈ news) (_ : (ta, tupO vs.toArray nt) ∈ news) (_ : Spots news vs ps) (_ : vs.length < 1000)
  (_ : dp + 1 < recursionLimit) (_ : un + 200 < cLine)
  (_ : ∀ (ra fa : Addr) (us : List Value) (b : Bool) (k nr : Nat) (h' : Heap) (tk : Nat), Spots news us (fin c (dd ps)) → b = (c && decide (1 < (dd ps).length)) → Fr h₀ L h' m →
    News h₀ L h' ((ra, tupO #[.ref fa, .bool b] nr) :: (fa, listOf us.toArray k) :: news) → (∀ q ∈ news, q.1 < fa) → fa < ra → Q (.ref ra) { s with heap := h', toks := tk }),
  wpAny (model PySem.Challenge.rw_xm0698_01.row.prog w) (ktrTop dp un gd cn cs L a ccd cl outer) (call (.ref 21) [.ref ca]) Q E s := by
  intro p loose mean mg mb dp un gd cn cs a ccd cl outer A₀ base h₀ L m s Q E news ca ta c nc nt vs ps B F X T hk N hca hta hsp hlen hd hu hret
  refine plain_call w (ta := ta) (nc := nc) (nt := nt) B F X T hk (fun q hq => N q ?_) hsp hlen hd hu fun ra fa us b k nr h' tk hs _ hb F' N' l1 l2 l3 l4 => hret ra fa us b k nr h' tk hs hb F' (fun q hq => N' q ?_) l1 l4
  · rcases List.mem_cons.mp hq with rfl | hq
    · exact hca
    · rcases List.mem_cons.mp hq with rfl | hq
      · exact hta
      · exact hq
  · rcases List.mem_cons.mp hq with rfl | hq
    · exact List.mem_cons_self
    · rcases List.mem_cons.mp hq with rfl | hq
      · exact List.mem_cons_of_mem _ List.mem_cons_self
      · exact List.mem_cons_of_mem _ (List.mem_cons_of_mem _ (List.mem_cons_of_mem _ (List.mem_cons_of_mem _ hq)))
end Mine
namespace Mine
theorem lampT10 : True := by
  w_top off
  trivial
theorem rest_ind {prog : Program} {w : World} {A : Around} {h₀ : Heap} {L : Addr} {m : Str → Option Value} {env : Env} {elt : PySem.Expr} {x : Str} {scope : Scope} {cl : List (Str × Addr)} {s : Shared} {S : List (Addr × Obj) → Prop} {P : Nat → Value → Prop}
    {Fin : List Value → List (Addr × Obj) → Prop} (Inv : Nat → List Value → List (Addr × Obj) → Prop) (n : Nat)
    (step : ∀ i ys news, i < n → Inv i ys news → ∀ v I oI C oC D m₂ h tk (E' : Value → Shared → Prop), P i v → LCg.NsObj oC m₂ → m₂ x = some v → Fr h₀ L h m → News h₀ L h ((I, oI) :: (C, oC) :: (D, LCg.lst ys) :: news) → LCg.Off3 I C D news →
      ((@Ne Nat I C) ∧ (@Ne Nat I D) ∧ (@Ne Nat C D)) →
      wpAny (model prog w) A (eval elt (compEnvC scope cl C env)) (LCg.CompEnd h₀ L m { s with heap := h, toks := tk } I oI C oC D (LCg.lst ys) S (fun y news' => Inv (i + 1) (ys ++ [y]) news')) E' { s with heap := h, toks := tk })
    (fin : ∀ ys news, Inv n ys news → Fin ys news) : ∀ k i ys news, i + k = n → Inv i ys news → LCg.CompRest prog w A h₀ L m env elt x scope cl s S P Fin k i ys news := by
  intro k
  induction k with
  | zero =>
    intro i ys news e hI
    have : i = n := by omega
    subst this
    exact LCg.CompRest.zero (fin ys news hI)
  | succ k ih =>
    intro i ys news e hI
    refine LCg.CompRest.succ fun v I oI C oC D m₂ h tk E' hP hC hx F N off ne => ?_
    refine wpAny_mono (step i ys news (by omega) hI v I oI C oC D m₂ h tk E' hP hC hx F N off ne) (fun y s' hE => ?_) fun _ _ e => e
    obtain ⟨h', tk', news', e', F', N', off', hS, hr⟩ := hE
    exact ⟨h', tk', news', e', F', N', off', hS, ih (i + 1) (ys ++ [y]) news' (by omega) hr⟩

/-- what the draws of the spots keep: the source, the cell, the spots made so far -/
def SInv (sa c : Addr) (oc : Obj) (i : Nat) (ys : List Value) (news : List (Addr × Obj)) : Prop :=
  ∃ (x y : Int) (tx ty : Tok) (nn : Nat) (tl : List (Addr × Obj)) (ps : List Pt), news = (sa, src x y tx ty nn) :: (c, oc) :: tl ∧ ys.length = i ∧ 0 ≤ x ∧ 0 ≤ y ∧ y < 2147483647 ∧ Spots tl ys ps ∧ (∀ q ∈ tl, q.1 ≠ sa) ∧ (∀ q ∈ tl, q.1 ≠ c)

/-- a loop over a range by ones, whatever its body stores -/
theorem range_loop {prog : Program} {w : World} {A : Around} {E : Value → Shared → Prop} {s : Shared} {env : Env} {h₀ : Heap} {x : Str} {body : List Stmt} {Q : Flow → Shared → Prop} {r : Addr} {a₀ b₀ : Int} {t₀ u₀ v₀ : Tok} {n : Nat} {m₀ : Str → Option Value} {news : List (Addr × Obj)}
    (J : Nat → (Str → Option Value) → List (Addr × Obj) → Prop)
    (hh : A.handled = none) (hr : IsRange s.heap r a₀ b₀ 1 t₀ u₀ v₀) (hsmall : Builtin.Range.small a₀ b₀ 1 = true) (hsz : Builtin.Range.rangeSize a₀ b₀ 1 = (n : Int)) (F : Fr h₀ env.locals s.heap m₀) (N : News h₀ env.locals s.heap news) (hj : J 0 m₀ news)
    (turn : ∀ i k t m₁ nx h tk own, i < n → OwnOff own (nx.map (·.1)) → J i m₁ nx → Fr h₀ env.locals h (fun y => if y = x then some (.int k t) else m₁ y) → News h₀ env.locals h (nx ++ own) →
      wpAny (model prog w) A (execs body env) (InvPostG h₀ env.locals (J (i + 1)) own { s with heap := h, toks := tk } Q) E { s with heap := h, toks := tk })
    (done : ∀ m₁ nx h tk, J n m₁ nx → Fr h₀ env.locals h m₁ → News h₀ env.locals h nx → Q .next { s with heap := h, toks := tk }) :
    wpAny (model prog w) A (pyIter (.ref r)) (fun it s₂ => LoopAtV prog w A h₀ env x body Q E it s₂) E s := by
  refine wpAny_pyIter_range hr hsmall ?_
  have W : Walks prog w A s.heap.objs.size [s.heap.objs.size] [s.heap.objs.size] n (fun i v => i < n ∧ ∃ t, v = .int (a₀ + i * 1) t)
      (fun i h => IsRangeIter h s.heap.objs.size (a₀ + (i : Nat) * 1) ((n : Int) - (i : Nat)) 1) := (Walks.range hh _ a₀ 1 n).bound
  refine kdr_loop J W (fun _ h => h) (fun _ h => h) (fun i h hi b hb => ?_) (fun hm => ?_) (fun b hb => ?_) (fun p hp hI => ?_) (by show IsRangeIter _ _ _ _ _; rw [hsz]; simpa using Heap.get?_push_size _ rfl) (F.push _) (fun p hp => ⟨Heap.get?_push_of_some _ (N p hp).1, (N p hp).2⟩) hj ?_ done
  · rw [List.mem_singleton.mp hb]
    exact ⟨_, hi⟩
  · exact absurd F.ns.lt ((List.mem_singleton.mp hm) ▸ Nat.lt_irrefl _)
  · rw [List.mem_singleton.mp hb]
    exact next_is_new F
  · exact absurd (Heap.lt_size (N p hp).1) ((List.mem_singleton.mp hI) ▸ Nat.lt_irrefl _)
  · rintro i v m₁ nx h tk own hi ⟨_, t, rfl⟩ hoff hJ F₁ N₁
    exact turn i _ t m₁ nx h tk own hi hoff hJ F₁ N₁
end Mine
namespace Mine
theorem lampM7 : True := by
  w_top off
  trivial
theorem line_ends (ps : List Pt) : fin false (dd ps) = ends ps := dd_ends ps
theorem first_line : (fin false (dd [(0, 0), (1, 0), (0, 0)])) = [(0, 0), (1, 0), (0, 0)] := by decide

def Stop (P : Prop) : Prop := P
theorem Stop.out {P : Prop} (h : Stop P) : P := h
theorem law_top (name : Str) (scope : Scope) (L a : Addr) (cd : Value) : callerA.deeper (envOfC name scope L a cd) = ktrTop (1 + claimMargin + 1) 7 (some []) name scope L a cd (cellsFrom (L + 1) scope.names []) [] := rfl
theorem at_top {M : Model} {A A' : Around} {α : Type} {t : Sem α} {Q : α → Shared → Prop} {E : Value → Shared → Prop} {s : Shared} (h : A = A') (k : wpAny M A' t Q E s) : wpAny M A t Q E s := h ▸ k
local macro_rules | `(tactic| k_mem) => `(tactic| first | with_reducible assumption | apply List.mem_cons_self | (refine' List.mem_cons_of_mem _ ?_; k_mem))
local macro_rules | `(tactic| k_all) => `(tactic| first | assumption | (refine' List.forall_mem_cons.mpr ⟨?a, ?b⟩; (case a => first | assumption | k_ne); (case b => k_all)))
local macro_rules | `(tactic| kst_in) => `(tactic| (repeat' (first | apply sub_self | refine sub_tail ?_)))
local macro_rules | `(tactic| ktr_rel) => `(tactic| first | with_reducible assumption | refine Spots.nil | (refine Spots.cons (by k_mem) ?_; ktr_rel) | (refine' Spots.mono ?sm1 ?sm2; (case sm2 => with_reducible assumption); (case sm1 => kst_in)))
local macro_rules | `(tactic| walk_at "call ref") => `(tactic| (k_here; (with_reducible show wpAny _ _ (call (Value.ref 35) [Value.ref _, Value.int _ _]) _ _ _); k_dflt (refine at_top (law_top _ _ _ _ _) ?_); k_dflt (refine' take_use _ ?k1 ?k2 ?k3 ?k4 ?k5 ?k6 ?k7 ?k8 ?k9 ?k10 ?k11 ?k12 ?k13 ?k14 ?_); (case k1 => k_asm); (case k2 => k_asm); (case k3 => k_asm); (case k4 => k_asm); (case k5 => first | rfl | assumption); (case k6 => k_asm); (case k7 => (intro o'; k_upd)); (case k8 => first | assumption | omega | decide); (case k9 => first | assumption | omega | decide); (case k10 => first | assumption | omega); (case k11 => first | assumption | omega); (case k12 => first | assumption | omega); (case k13 => k_dflt (exact Nat.le_of_ble_eq_true rfl)); (case k14 => k_dflt (exact Nat.le_of_ble_eq_true rfl)); intro r8 x8 y8 t8 tx8 ty8 n8 h8 tk8 hr0 hr1 hx8 hy8 hy9 F8 N8; (try dsimp only)))
local macro_rules | `(tactic| walk_at "call ref") => `(tactic| (k_here; (with_reducible show wpAny _ _ (call (Value.ref 61) [Value.ref _]) _ _ _); k_dflt (refine at_top (law_top _ _ _ _ _) ?_); k_dflt (refine' number_use _ ?k1 ?k2 ?k3 ?k4 ?k5 ?k6 ?k7 ?k10 ?k11 ?k12 ?k13 ?k14 ?_); (case k1 => k_asm); (case k2 => k_asm); (case k3 => k_asm); (case k4 => k_asm); (case k5 => first | rfl | assumption); (case k6 => k_asm); (case k7 => (intro o'; k_upd)); (case k10 => first | assumption | omega); (case k11 => first | assumption | omega); (case k12 => first | assumption | omega); (case k13 => k_dflt (exact Nat.le_of_ble_eq_true rfl)); (case k14 => k_dflt (exact Nat.le_of_ble_eq_true rfl)); intro i8 t8 x8 y8 tx8 ty8 n8 h8 tk8 hx8 hy8 hy9 F8 N8; (try dsimp only)))
theorem flat_rep (v : Value) : ∀ n : Nat, (List.replicate n [v]).flatten = List.replicate n v
  | 0 => rfl
  | n + 1 => by rw [List.replicate_succ, List.flatten_cons, flat_rep v n, List.replicate_succ]; rfl
theorem Spots.mem {led : List (Addr × Obj)} {vs : List Value} {ps : List Pt} (h : Spots led vs ps) {v : Value} (hv : v ∈ vs) : ∃ p, ∀ n : Nat, Spots led (List.replicate n v) (List.replicate n p) := by
  obtain ⟨i, hi, e⟩ := List.getElem_of_mem hv
  obtain ⟨a, p, t, u, n, rfl, hp, hm⟩ := h.get (i := i) (v := v) (by rw [List.getElem?_eq_getElem hi, e])
  refine ⟨p, fun n => ?_⟩
  induction n with
  | zero => exact .nil
  | succ n ih => exact .cons hm ih
local macro_rules | `(tactic| walk_at "binaryOp Mult ref int") => `(tactic| (k_here; k_dflt (refine' KMa.mul ?F ?N ?l ?lo ?hi ?z ?e ?_; (case F => k_asm); (case N => k_asm); (case l => (refine' isl_of ?l1 ?l2; (case l1 => k_asm); (case l2 => k_mem))); (case lo => omega); (case hi => omega); (case z => (simp only [List.length_cons, List.length_nil, Nat.zero_add, Nat.one_mul]; omega)); (case e => exact flat_rep _ _)); intro D' h' F' N' l1; (try k_lt l1); (try k_sweep)))
local macro_rules | `(tactic| walk_at "binaryOp Add ref ref") => `(tactic| (k_here; k_dflt (refine' kmk_add_lit ?F ?N ?a ?b ?e ?_ ?z; (case F => k_asm); (case N => k_asm); (case a => (refine' isl_of ?a1 ?a2; (case a1 => k_asm); (case a2 => k_mem))); (case b => (refine' isl_of ?b1 ?b2; (case b1 => k_asm); (case b2 => k_mem))); (case e => exact rfl); (case z => ((rw [PySem.sizeLine_eq]); (simp only [List.length_replicate]); omega))); intro D' h' F' N' l1; (try k_sweep)))
local macro_rules | `(tactic| walk_at "call ref") => `(tactic| (k_here; (with_reducible show wpAny _ _ (call (Value.ref 42) [Value.ref _, Value.ref _]) _ _ _); k_dflt (refine at_top (law_top _ _ _ _ _) ?_); k_dflt (refine' one_use _ ?k1 ?k2 ?k3 ?k4 ?k5 ?k6 ?k7 ?k8 ?k8b ?k9 ?k10 ?k11 ?k12 ?k13 ?k14 ?k15 ?_); (case k1 => k_asm); (case k2 => k_asm); (case k3 => k_asm); (case k4 => k_asm); (case k5 => first | rfl | assumption); (case k6 => k_asm); (case k7 => (intro o'; k_upd)); (case k8 => k_mem); (case k8b => k_ne); (case k9 => omega); (case k10 => omega); (case k11 => first | assumption | omega); (case k12 => first | assumption | omega); (case k13 => first | assumption | omega); (case k14 => k_dflt (exact Nat.le_of_ble_eq_true rfl)); (case k15 => k_dflt (exact Nat.le_of_ble_eq_true rfl)); intro v8 x8 y8 tx8 ty8 n8 h8 tk8 hv8 hx8 hy8 hy9 F8 N8; (try dsimp only)))
local macro_rules | `(tactic| walk_at "call ref") => `(tactic| (k_here; (with_reducible show wpAny _ _ (call (Value.ref 28) [Value.ref _]) _ _ _); k_dflt (refine at_top (law_top _ _ _ _ _) ?_); k_dflt (refine' pool_call _ ?k1 ?k2 ?k3 ?k4 ?k5 ?k6 ?k7 ?k8 ?k9 ?k10 ?k11 ?_); (case k1 => k_asm); (case k2 => k_asm); (case k3 => k_asm); (case k4 => k_asm); (case k5 => first | rfl | assumption); (case k6 => k_asm); (case k7 => assumption); (case k8 => assumption); (case k9 => l_fit); (case k10 => k_dflt (exact Nat.le_of_ble_eq_true rfl)); (case k11 => k_dflt (exact Nat.le_of_ble_eq_true rfl)); intro sa8 x8 y8 tx8 ty8 n8 h8 tk8 hx8 hy8 hy9 F8 N8 l8; (try k_lt l8)))
local macro_rules | `(tactic| walk_at "call ref") => `(tactic| (k_here; (with_reducible show wpAny _ _ (call (Value.ref 21) [Value.ref _]) _ _ _); k_dflt (refine at_top (law_top _ _ _ _ _) ?_); k_dflt (refine' plain_use _ ?k1 ?k2 ?k3 ?k4 ?k5 ?k6 ?k7 ?k8 ?k9 ?k10 ?k11 ?k12 ?_); (case k1 => k_asm); (case k2 => k_asm); (case k3 => k_asm); (case k4 => k_asm); (case k5 => first | rfl | assumption); (case k6 => k_asm); (case k7 => k_mem); (case k8 => k_mem); (case k9 => k_dflt ktr_rel); (case k10 => first | assumption | k_dflt (exact Nat.le_of_ble_eq_true rfl) | omega); (case k11 => k_dflt (exact Nat.le_of_ble_eq_true rfl)); (case k12 => k_dflt (exact Nat.le_of_ble_eq_true rfl)); intro ra8 fa8 us8 b8 k8 nr8 h8 tk8 hs8 hb8 F8 N8 l8 l9; (try k_lt l8); (try k_lt2 l9); (try simp only [Bool.false_and, Bool.true_and] at hb8)))
theorem res_ne' {prog : Program} {w : World} {A : Around} {E : Value → Shared → Prop} {s : Shared} {h₀ : Heap} {L a b fa fb : Addr} {news : List (Addr × Obj)} {us us' : List Value} {es es' : List Pt} {c c' : Bool} {n n' k k' : Nat} {Q : Value → Shared → Prop}
    (N : News h₀ L s.heap news) (ma : (a, tupO #[.ref fa, .bool c] n) ∈ news) (mf : (fa, listOf us.toArray k) ∈ news) (hs : Spots news us es)
    (mb : (b, tupO #[.ref fb, .bool c'] n') ∈ news) (mg : (fb, listOf us'.toArray k') ∈ news) (hs' : Spots news us' es') (hu : A.units + 64 < cLine) (he : es = es') (hc : c = c')
    (h : Q (.bool false) s) : wpAny (model prog w) A (compareOp .NotEq (.ref a) (.ref b)) Q E s := res_ne N ma mf hs sub_self mb mg hs' sub_self hu he hc h
local macro_rules | `(tactic| walk_at "compareOp NotEq ref ref") => `(tactic| (k_here; k_dflt (refine' res_ne' ?k1 ?k2 ?k3 ?k4 ?k6 ?k7 ?k8 ?k10 ?k11 ?k12 ?_); (case k1 => k_asm); (case k2 => k_mem); (case k3 => k_mem); (case k4 => k_dflt ktr_rel); (case k6 => k_mem); (case k7 => k_mem); (case k8 => k_dflt ktr_rel); (case k10 => k_dflt (exact Nat.le_of_ble_eq_true rfl)); (case k11 => first | exact first_line | exact line_ends _); (case k12 => assumption)))

theorem closed_line (ps : List Pt) : fin true (dd ps) = trim (ends ps) := by rw [dd_ends]; rfl
theorem flag_eq {ps : List Pt} {b1 b2 : Bool} (h1 : b1 = decide (1 < (dd ps).length)) (h2 : b2 = decide (1 < (trim (ends ps)).length)) : b1 = b2 := by
  subst h1 h2
  rw [← dd_ends ps]
  refine decide_eq_decide.mpr ?_
  unfold trim
  split
  · rename_i h
    rw [List.length_dropLast]
    constructor
    · intro h1
      by_cases h2 : (dd ps).length = 2
      · obtain ⟨a, b, e⟩ : ∃ a b, dd ps = [a, b] := by
          match hd : dd ps, h2 with
          | [a, b], _ => exact ⟨a, b, rfl⟩
        have h3 : a = b := by
          have h4 := h.2
          rw [e] at h4
          exact Option.some.inj h4
        exact absurd h3.symm (dd_last2 ps [] a b e)
      · omega
    · intro h1
      omega
  · exact Iff.rfl
theorem res_eq' {prog : Program} {w : World} {A : Around} {E : Value → Shared → Prop} {s : Shared} {h₀ : Heap} {L a b fa fb : Addr} {news : List (Addr × Obj)} {us us' : List Value} {es es' : List Pt} {c c' : Bool} {n n' k k' : Nat} {Q : Value → Shared → Prop}
    (N : News h₀ L s.heap news) (ma : (a, tupO #[.ref fa, .bool c] n) ∈ news) (mf : (fa, listOf us.toArray k) ∈ news) (hs : Spots news us es)
    (mb : (b, tupO #[.ref fb, .bool c'] n') ∈ news) (mg : (fb, listOf us'.toArray k') ∈ news) (hs' : Spots news us' es') (hu : A.units + 64 < cLine) (he : es = es') (hc : c = c')
    (h : Q (.bool true) s) : wpAny (model prog w) A (compareOp .Eq (.ref a) (.ref b)) Q E s := res_eq N ma mf hs sub_self mb mg hs' sub_self hu he hc h
local macro_rules | `(tactic| walk_at "compareOp Eq ref ref") => `(tactic| (k_here; k_dflt (refine' res_eq' ?k1 ?k2 ?k3 ?k4 ?k6 ?k7 ?k8 ?k10 ?k11 ?k12 ?_); (case k1 => k_asm); (case k2 => k_mem); (case k3 => k_mem); (case k4 => k_dflt ktr_rel); (case k6 => k_mem); (case k7 => k_mem); (case k8 => k_dflt ktr_rel); (case k10 => k_dflt (exact Nat.le_of_ble_eq_true rfl)); (case k11 => exact closed_line _); (case k12 => exact flag_eq (by with_reducible assumption) (by with_reducible assumption))))
local macro_rules | `(tactic| walk_at "call type:tuple") => `(tactic| (k_here; (with_reducible show wpAny _ _ (call (Value.type _) [Value.ref _]) _ _ _); k_dflt (refine' kde_tupleOf ?k1 ?k2 ?k3 ?k4 ?k5 ?_; (case k1 => k_asm); (case k2 => k_asm); (case k3 => (refine' isl_of ?l1 ?l2; (case l1 => k_asm); (case l2 => k_mem))); (case k4 => (rw [List.size_toArray]; omega)); (case k5 => first | exact List.toList_toArray | exact List.toList_toArray _)); intro D' h' F' N' l1; (try k_lt l1); (try k_sweep)))
local macro_rules | `(tactic| walk_at "call ref") => `(tactic| (k_here; (with_reducible show wpAny _ _ (call (Value.ref 47) [Value.ref _]) _ _ _); k_dflt (refine at_top (law_top _ _ _ _ _) ?_); k_dflt (refine' ends_call _ ?k1 ?k2 ?k3 ?k4 ?k5 ?k6 ?k7 ?k8 ?k9 ?k10 ?k11 ?_); (case k1 => k_asm); (case k2 => k_asm); (case k3 => k_asm); (case k4 => k_asm); (case k5 => first | rfl | assumption); (case k6 => k_asm); (case k7 => k_mem); (case k8 => k_dflt ktr_rel); (case k9 => omega); (case k10 => k_dflt (exact Nat.le_of_ble_eq_true rfl)); (case k11 => k_dflt (exact Nat.le_of_ble_eq_true rfl)); intro D8 us8 k8 h8 tk8 hs8 hu8 F8 N8 l8; (try k_lt l8)))
local macro_rules | `(tactic| walk_at "call ref") => `(tactic| (k_here; (with_reducible show wpAny _ _ (call (Value.ref 54) [Value.ref _]) _ _ _); k_dflt (refine at_top (law_top _ _ _ _ _) ?_); k_dflt (refine' closed_call _ ?k1 ?k2 ?k3 ?k4 ?k5 ?k6 ?k7 ?k8 ?k9 ?k10 ?k11 ?_); (case k1 => k_asm); (case k2 => k_asm); (case k3 => k_asm); (case k4 => k_asm); (case k5 => first | rfl | assumption); (case k6 => k_asm); (case k7 => k_mem); (case k8 => k_dflt ktr_rel); (case k9 => omega); (case k10 => k_dflt (exact Nat.le_of_ble_eq_true rfl)); (case k11 => k_dflt (exact Nat.le_of_ble_eq_true rfl)); intro ta8 fa8 us8 b8 k8 nt8 h8 tk8 hs8 hb8 F8 N8))
local macro_rules | `(tactic| walk_at "exec Assign cons ListComp") => `(tactic| (k_here; k_dflt (refine PyProof.Rows.LCg.Assign_ListComp_U (F₀ := by k_asm) (by rfl) (by with_unfolding_all rfl) (by with_unfolding_all rfl) (by decide) (by rfl) (by decide) (by rfl) (by rfl) (by rfl) ?_)))
local macro_rules | `(tactic| walk_at "exec For Name Call cons nil") => `(tactic| (k_here; (rename Fr _ _ _ _ => lF'); (with_unfolding_all refine' For_invVF lF' ?k1 ?k2 ?_; (case k1 => exact rfl); (case k2 => exact rfl); k_whole)))
local macro_rules | `(tactic| walk_at "pyIter ref") => `(tactic| (refine Stop.out ?_))
local macro_rules | `(tactic| walk_at "CompSrc") => `(tactic| (refine Stop.out ?_))
theorem main : PySem.Challenge.rw_xm0698_01.Holds := by
  refine hd ?_
  k_go0
  dsimp only
  k_fold
  rename_i w s₀ s₁ mg mb G Y fa o pm doc ho hg KX X V GL T B TE TW a10 a9 M a8 a7 hcd ns hs hlay0 hL1 hr1 hl2 b5 b4 sl vs b1 hL ra w1 r0 hI hr hc1 hc2 K0 hD h₁ tk₁ F oc hcell N0 X0
  have hq : ∀ (h' : Heap) (tk : Nat) (m' : Str → Option Value), Fr s₁.heap s₁.heap.objs.size h' m' → qk (.ret (.bool true)) { s₁ with heap := h', toks := tk } := by
    intro h' tk m' F'
    clear F N0 X0 hcell
    k_unfold
    dsimp only
    wrow_close
  have hlen : ns.length ≤ 63 := by omega
  clear_value qk
  clear X0 hD hc2 hc1 hr r0 w1 ra hl2 hr1 hL1 hlay0 hs hcd M TW TE B GL V X hg ho Y G
  have K1 : Below callerA s₁.heap [] s₁.heap := K0
  have F1 : Fr s₁.heap s₁.heap.objs.size h₁ (fun y => if y = Str.ofString "script" then some (.ref sl) else none) := F
  have hc : oc.data = .cell none := hcell
  clear K0 F hcell
  k_steps
  have hsd : ∀ P : Prop, P → Stop P := fun _ h => h
  refine hsd _ ?_
  clear hsd
  rename IsRange _ _ _ _ _ _ _ _ => hR
  rename News s₁.heap _ _ _ => N2
  rename Fr s₁.heap _ _ _ => F2
  rename _ = Data.cell (some _) => hc2
  rename (_ : Int) < 3 => hr1
  rename_i sa8 x0 y0 tx0 ty0 n0 h0 tk0 hx0 hy0 hy90 l8 h1 o' Fa Na r8 x8 y8 t8 tx8 ty8 n8 h8 tk8 hr0 hx8 hy8 hy9 Fb Nb hg tkg tt1 tu1 tv1 hup
  have hcs : @Ne Nat (s₁.heap.objs.size + 1) sa8 := by
    have := l8.2.2.2.2.2.2.2.2.2.2.2.2
    omega
  have N3 : News s₁.heap s₁.heap.objs.size hg [(sa8, src x8 y8 tx8 ty8 n8), (s₁.heap.objs.size + 1, o')] := by
    intro q hq
    rcases List.mem_cons.mp hq with rfl | hq
    · exact N2 _ List.mem_cons_self
    · rw [List.mem_singleton.mp hq]
      exact N2 _ (by k_dflt k_mem)
  clear l8 Na Fb Nb N2
  refine PyProof.Rows.LCg.CompSrc.range (n := (2 + r8).toNat) (by rfl) F2 N3 hR (small_one (by omega) (by omega) (by omega) (by omega)) (by rw [rangeSize_nat]; simp) (by rw [PySem.sizeLine_eq]; omega) ?_
  intro g
  clear hR F2 N3 hup
  refine rest_ind (SInv sa8 (s₁.heap.objs.size + 1) o') _ ?_ ?_ _ _ _ _ (Nat.zero_add _) ⟨x8, y8, tx8, ty8, n8, [], [], rfl, rfl, hx8, hy8, hy9, .nil, by simp, by simp⟩
  · rintro i ys news hi ⟨x, y, tx, ty, nn, tl, ps, rfl, hlenY, hx, hy, hy1, hsp, ht1, ht2⟩ v I oI C oC D m₂ h tk E' hP hC hxv F N off ne
    obtain ⟨⟨a1, a2, a3⟩, ⟨b1, b2, b3⟩, off'⟩ := off
    obtain ⟨ne1, ne2, ne3⟩ := ne
    clear hq
    show wpAny _ _ _ _ _ _
    k_fold
    k_steps
    rename_i i1 t1 xa ya txa tya na ha tka hxa hya hyb ce2 i2 t2 xb yb txb tyb nb hb tkb hxb hyb2 hyb3 DT hT F5 N5 l5
    (try k_unfold)
    refine PyProof.Rows.LCg.CompEnd.intro F5 N5 ((sa8, src xb yb txb tyb nb) :: (s₁.heap.objs.size + 1, o') :: (DT, tupO #[.int i1 t1, .int i2 t2] 0) :: tl) (fun q hq => ?_) ?_ trivial
      ⟨xb, yb, txb, tyb, nb, _, ps ++ [(i1, i2)], rfl, by rw [List.length_append, hlenY]; rfl, hxb, hyb2, hyb3, ?_, ?_, ?_⟩
    · simp only [List.mem_cons] at hq ⊢
      rcases hq with h | h | h | h | h | h | h
      · exact .inr (.inl h)
      · exact .inr (.inr (.inl h))
      · exact .inr (.inr (.inr (.inl h)))
      · exact .inr (.inr (.inr (.inr (.inl h))))
      · exact .inr (.inr (.inr (.inr (.inr (.inl h)))))
      · exact .inl h
      · exact .inr (.inr (.inr (.inr (.inr (.inr h)))))
    · refine ⟨⟨a1, a2, a3⟩, ⟨b1, b2, b3⟩, ⟨?_, ?_, ?_⟩, off'⟩
      · exact Ne.symm (Nat.ne_of_lt l5.1)
      · exact Ne.symm (Nat.ne_of_lt l5.2.1)
      · exact Ne.symm (Nat.ne_of_lt l5.2.2.1)
    · exact (hsp.mono (fun q hq => List.mem_cons_of_mem _ hq)).append (.cons List.mem_cons_self .nil)
    · intro q hq
      rcases List.mem_cons.mp hq with rfl | hq
      · exact Ne.symm (Nat.ne_of_lt l5.2.2.2.1)
      · exact ht1 q hq
    · intro q hq
      rcases List.mem_cons.mp hq with rfl | hq
      · exact Ne.symm (Nat.ne_of_lt l5.2.2.2.2.1)
      · exact ht2 q hq
  · rintro ys news ⟨x, y, tx, ty, nn, tl, ps, rfl, hlenY, hx, hy, hy1, hsp, ht1, ht2⟩
    have hl2 : 0 < ys.length := by omega
    have hl3 : ys.length < 5 := by omega
    clear hlenY hr0 hr1
    intro D h tk F N off
    dsimp only
    obtain ⟨of1, of2, of3⟩ := off
    k_steps
    have hsd : ∀ P : Prop, P → Stop P := fun _ h => h
    refine hsd _ ?_
    clear hsd
    rename IsRange _ _ _ _ _ _ _ _ => hR
    rename News s₁.heap _ _ _ => N2
    rename Fr s₁.heap _ _ _ => F2
    rename _ < (5 : Int) => hr1
    rename_i rw0 hw1 lw0 hw2 Fw2 Nw2 r9 x9 y9 t9 tx9 ty9 n9 h9 tk9 hr0 hx9 hy9 hy99 F9 N9 h10 tk10 tt1 tu1 tv1 hup
    clear F9 N9 Fw2 Nw2 hup hx hy hy1
    refine range_loop (n := r9.toNat) (fun i m nx => ∃ (u : Option Value) (row : Addr) (k : Nat) (rs : List Value) (qs : List Pt) (x y : Int) (tx ty : Tok) (nn : Nat),
      m = (fun z => if z = Str.ofString "turn" then u else if z = Str.ofString "row" then some (.ref row) else if z = Str.ofString "some" then some (.ref D) else if z = Str.ofString "script" then some (.ref sl) else none) ∧
      nx = (row, listOf rs.toArray k) :: (D, LCg.lst ys) :: (sa8, src x y tx ty nn) :: (s₁.heap.objs.size + 1, o') :: tl ∧ rs.length ≤ 2 * i ∧ Spots tl rs qs ∧ 0 ≤ x ∧ 0 ≤ y ∧ y < 2147483647 ∧ @Ne Nat D row ∧ @Ne Nat sa8 row ∧ @Ne Nat (s₁.heap.objs.size + 1) row ∧ (∀ q ∈ tl, @Ne Nat q.1 row))
      (by rfl) hR (small_one (by omega) (by omega) (by omega) (by omega)) (by rw [rangeSize_nat]; simp) F2 N2 ?_ ?_ ?_
    · refine ⟨none, _, _, [], [], _, _, _, _, _, ?_, rfl, by simp, .nil, hx9, hy9, hy99, Nat.ne_of_lt lw0.1, Nat.ne_of_lt lw0.2.1, Nat.ne_of_lt lw0.2.2.1, fun q hq => Nat.ne_of_lt (kst_ltOf lw0.2.2.2 q hq)⟩
      funext z
      by_cases hz : z = Str.ofString "turn"
      · subst hz; rfl
      · rw [if_neg hz]
    · clear hR F2 N2 lw0
      rintro i k t m₁ nx h tk own hi hoff ⟨u, row, kr, rs, qs, x, y, tx, ty, nn, rfl, rfl, hrl, hrs, hx, hy, hy1, e1, e2, e3, e4⟩ F N
      simp only [List.cons_append] at N
      have hto : ∀ q ∈ tl ++ own, q.1 ≠ sa8 := by
        intro q hq
        rcases List.mem_append.mp hq with hq | hq
        · exact ht1 q hq
        · exact hoff q hq sa8 (by simp)
      clear hq
      show wpAny _ _ _ _ _ _
      k_fold
      change Fr s₁.heap s₁.heap.objs.size h _ at F
      change News s₁.heap s₁.heap.objs.size h _ at N
      have hDs : @Ne Nat D sa8 := Ne.symm of1
      k_steps
      rename_i v5 x5 y5 tx5 ty5 n5 h5 tk5 hv5 hx5 hy5 hz5 D5 g5 l5 r6 x6 y6 t6 tx6 ty6 n6 h6 tk6 hr6 hr7 hx6 hy6 hz6 D6 g6 l6 D7 g7 l7 g8 F7 N7
      have hin : ∀ q ∈ tl ++ own, q.1 < D7 := fun q hq => l7 q (List.mem_cons_of_mem _ (List.mem_cons_of_mem _ (List.mem_cons_of_mem _ (List.mem_cons_of_mem _ (List.mem_cons_of_mem _ (List.mem_cons_of_mem _ hq))))))
      have hD7 : D < D7 := l7 (D, LCg.lst ys) (by k_dflt k_mem)
      have hS7 : sa8 < D7 := l7 (sa8, src x6 y6 tx6 ty6 n6) (by k_dflt k_mem)
      have hC7 : s₁.heap.objs.size + 1 < D7 := l7 (s₁.heap.objs.size + 1, o') (by k_dflt k_mem)
      obtain ⟨pv, hpv⟩ := hsp.mem hv5
      refine InvEndG.intro (nx := (D7, listOf (rs ++ List.replicate (1 + r6).toNat v5).toArray 0) :: (D, LCg.lst ys) :: (sa8, src x6 y6 tx6 ty6 n6) :: (s₁.heap.objs.size + 1, o') :: tl) F7 N7
        ⟨some (.int k t), D7, 0, _, _, x6, y6, tx6, ty6, n6, ?_, rfl, ?_, hrs.append (hpv (1 + r6).toNat), hx6, hy6, hz6, Nat.ne_of_lt hD7, Nat.ne_of_lt hS7, Nat.ne_of_lt hC7, fun q hq => Nat.ne_of_lt (hin q (List.mem_append_left _ hq))⟩ ?_ ?_ ?_
      · clear F7 N7 l7
        funext z
        by_cases z1 : z = Str.ofString "turn"
        · subst z1; rfl
        · by_cases z2 : z = Str.ofString "row"
          · subst z2; rfl
          · simp only [if_neg z1, if_neg z2]
      · rw [List.length_append, List.length_replicate]
        omega
      · intro q hq b hb
        rcases List.mem_cons.mp hb with rfl | hb
        · exact Nat.ne_of_lt (hin q (List.mem_append_right _ hq))
        · exact hoff q hq b (List.mem_cons_of_mem _ hb)
      · intro q hq
        rcases List.mem_cons.mp hq with rfl | hq
        · exact List.mem_cons_self
        · have hq' : q ∈ (D, LCg.lst ys) :: (sa8, src x6 y6 tx6 ty6 n6) :: (s₁.heap.objs.size + 1, o') :: (tl ++ own) := List.mem_append_left own hq
          exact List.mem_cons_of_mem _ (List.mem_cons_of_mem _ (List.mem_cons_of_mem _ (List.mem_cons_of_mem _ hq')))
      · intro q hq
        exact List.mem_cons_of_mem _ (List.mem_cons_of_mem _ (List.mem_cons_of_mem _ (List.mem_cons_of_mem _ (List.mem_cons_of_mem _ (List.mem_cons_of_mem _ (List.mem_cons_of_mem _ (List.mem_append_right _ hq)))))))
    · clear hR F2 N2 lw0
      rintro m₁ nx h tk ⟨u, row, kr, rs, qs, x, y, tx, ty, nn, rfl, rfl, hrl, hrs, hx, hy, hy1, e1, e2, e3, e4⟩ F N
      have hrl2 : rs.length < 1000 := by omega
      change Fr s₁.heap s₁.heap.objs.size h _ at F
      change News s₁.heap s₁.heap.objs.size h _ at N
      show wpAny _ _ _ _ _ _
      (try k_fold)
      k_steps
      rename Fr s₁.heap _ _ _ => Fz
      exact hq _ _ _ Fz
end Mine

theorem PySem.Challenge.cw_xm0698_01_holds : PySem.Challenge.rw_xm0698_01.Holds := by
  exact Mine.main
