import PyProof.Rows.All
import Wide.All
import OpenK.AllK
import Wide.FinOn
import KE.KDictOf
import KE.KEqDict
import KE.KPairComp
import PyProof.AttrMissHeap
import PySem.Challenge.RW_ok0144_01
open PySem PySem.W PySem.Calls PySem.Spec PyProof.Rows
set_option Elab.async false
set_option maxRecDepth 100000
namespace Mine
section Hd
/-- the part of the heap that stands after the top, and the view, as constants: the discharger makes them and falls behind it -/
def box (p : Prop) : Prop := p
theorem box_if {p : Prop} (_h : ({ PySem.Challenge.rw_ok0144_01.row with writes := true } : OpenRow).Holds) : box p = p := propext ⟨fun h => h, fun h => h⟩
theorem box_is {p : Prop} : box p ↔ p := ⟨fun h => h, fun h => h⟩
set_option Elab.async true in
set_option maxHeartbeats 8000000 in
theorem kv : box True ∧ 0 = 0 := by
  simp (disch := k_head) only [box_if, and_true]
  exact box_is.mpr trivial
/-- nothing below starts before these stand -/
theorem kv_there : (Mine.kv.heap_1_1 = Mine.kv.heap_1_1) ∧ (Mine.kv.view_1_2 = Mine.kv.view_1_2) := ⟨rfl, rfl⟩
end Hd
local macro_rules | `(tactic| walk_at $s:str) => `(tactic| k_extra $s)
section Take
theorem ln_Take_0 : True := by
  k_with_none
  w_top off
  trivial

abbrev prg : Program := PySem.Challenge.rw_ok0144_01.row.prog

theorem fmod_b (z : Int) (k : Int) (h : 0 < k) : 0 ≤ z.fmod k ∧ z.fmod k < k := by
  rw [Int.fmod_eq_emod_of_nonneg _ (Int.le_of_lt h)]
  exact ⟨Int.emod_nonneg _ (by omega), Int.emod_lt_of_pos _ h⟩
theorem sq_ok (z : Int) : IntMulOk (z.fmod 2147483647) (z.fmod 2147483647) :=
  IntMulOk.of_left (intBits_le_64 (by have := fmod_b z 2147483647 (by decide); omega) (by have := fmod_b z 2147483647 (by decide); omega))
theorem take_div {x top : Int} (hx : 0 ≤ x) (ht : 0 < top) : 0 ≤ x.fdiv top := by
  rw [Int.fdiv_eq_ediv_of_nonneg _ (Int.le_of_lt ht)]
  exact Int.ediv_nonneg hx (Int.le_of_lt ht)
theorem ln_Take_1 : True := by
  k_with "binaryOp Mult int int" => (with_unfolding_all refine mul_int ?_ (hm := sq_ok _))
  trivial

set_option maxHeartbeats 4000000 in
theorem take_c (w : World) : ∀ {loose : List Str} {mean : ExcName → Option Value} {mg mb : Str → Option Value} (dp un : Nat) (gd : Option (List Code)) (cn : Str) (cs : Scope) (a : Addr) (ccd : Value) (cl : List (Str × Addr)) (outer : List Env) (A₀ : Around) (base h₀ : Heap) (L : Addr) (m : Str → Option Value) (s : Shared) (Q E : Value → Shared → Prop)
    (x y top : Int) (tx ty tt : Tok) (n : Nat) (src : Addr) (rest : List (Addr × Obj)),
    Below A₀ base outer h₀ → Fr h₀ L s.heap m → (Mine.kv.heap_1_1 w.params).In h₀ → News h₀ L s.heap ((src, listOf #[.int x tx, .int y ty] n) :: rest) → Top Mine.kv.view_1_2 loose mean mg mb h₀ → cs.kind = .function →
    OwnOff rest [src] → 0 ≤ x → 0 ≤ y → y < 2147483647 → 0 < top → top ≤ 65536 → dp + 1 < recursionLimit → un + 8 < cLine →
    (∀ (r x' y' : Int) (t tx' ty' : Tok) (n' : Nat) (h' : Heap) (tk' : Nat), 0 ≤ r → r < top → 0 ≤ x' → 0 ≤ y' → y' < 2147483647 → Fr h₀ L h' m → News h₀ L h' ((src, listOf #[.int x' tx', .int y' ty'] n') :: rest) → Q (.int r t) { s with heap := h', toks := tk' }) →
    wpAny (model PySem.Challenge.rw_ok0144_01.row.prog w) (ktrTop dp un gd cn cs L a ccd cl outer) (call (.ref 314) [.ref src, .int top tt]) Q E s := by
  k_fill
  intro loose mean mg mb dp un gd cn cs a ccd cl outer A₀ base h₀ L m s Q E x y top tx ty tt n src rest B F X N T hk off hx hy hy2 ht ht2 hd hu hret
  refine wpAny_call ?_
  k_dflt cell_enter
  k_steps
  · exact hret _ _ _ _ _ _ _ _ _ (fmod_b _ _ ht).1 (fmod_b _ _ ht).2 (take_div hx ht) hy hy2 (by assumption) (by assumption)
  · exact hret _ _ _ _ _ _ _ _ _ (fmod_b _ _ ht).1 (fmod_b _ _ ht).2 hx (fmod_b _ _ (by decide)).1 (fmod_b _ _ (by decide)).2 (by assumption) (by assumption)

/-- the writer's source of draws: two ints, none below nought -/
def SrcObj (o : Obj) : Prop := ∃ (x y : Int) (tx ty : Tok) (n : Nat), o = listOf #[.int x tx, .int y ty] n ∧ 0 ≤ x ∧ 0 ≤ y ∧ y < 2147483647

theorem take_use {w : World} {loose : List Str} {mean : ExcName → Option Value} {mg mb : Str → Option Value} {dp un : Nat} {gd : Option (List Code)} {cn : Str} {cs : Scope} {a : Addr} {ccd : Value} {cl : List (Str × Addr)} {outer : List Env} {A₀ : Around} {base h₀ : Heap} {L : Addr} {m : Str → Option Value} {s : Shared} {Q E : Value → Shared → Prop}
    {top : Int} {tt : Tok} {src : Addr} {o : Obj} {news : List (Addr × Obj)} {g : Obj → List (Addr × Obj)}
    (B : Below A₀ base outer h₀) (F : Fr h₀ L s.heap m) (X : (Mine.kv.heap_1_1 w.params).In h₀) (N : News h₀ L s.heap news) (T : Top Mine.kv.view_1_2 loose mean mg mb h₀) (hk : cs.kind = .function)
    (U : UpdF src o news g) (S : SrcObj o) (ht : 0 < top) (ht2 : top ≤ 65536) (hd : dp + 1 < recursionLimit) (hu : un + 8 < cLine)
    (ret : ∀ (r : Int) (t : Tok) (o' : Obj) (h' : Heap) (tk' : Nat), 0 ≤ r → r < top → SrcObj o' → Fr h₀ L h' m → News h₀ L h' (g o') → Q (.int r t) { s with heap := h', toks := tk' }) :
    wpAny (model PySem.Challenge.rw_ok0144_01.row.prog w) (ktrTop dp un gd cn cs L a ccd cl outer) (call (.ref 314) [.ref src, .int top tt]) Q E s := by
  obtain ⟨pre, post, rfl, hg, q1, q2⟩ := U.split
  obtain ⟨x, y, tx, ty, n, rfl, hx, hy, hy2⟩ := S
  refine take_c w dp un gd cn cs a ccd cl outer A₀ base h₀ L m s Q E x y top tx ty tt n src (pre ++ post) B F X (fun p hp => N p ?_) T hk (fun p hp b hb => ?_) hx hy hy2 ht ht2 hd hu
    fun r x' y' t tx' ty' n' h' tk' h1 h2 h3 h4 h5 F' N' => ret r t _ h' tk' h1 h2 ⟨x', y', tx', ty', n', rfl, h3, h4, h5⟩ F' fun p hp => N' p ?_
  · simp only [List.mem_cons, List.mem_append] at hp ⊢
    rcases hp with hp | hp | hp <;> simp only [hp, true_or, or_true]
  · rw [List.mem_singleton.mp hb]
    rcases List.mem_append.mp hp with hp | hp
    · exact q1 p hp
    · exact q2 p hp
  · rw [hg] at hp
    simp only [List.mem_cons, List.mem_append] at hp ⊢
    rcases hp with hp | hp | hp <;> simp only [hp, true_or, or_true]
end Take
section One
theorem ln_One_0 : True := by
  k_with_none
  w_top off
  trivial

theorem one_item {prog : Program} {w : World} {A : Around} {E : Value → Shared → Prop} {s : Shared} {value slice : PySem.Expr} {l : Addr} {vs : List Value} {k : Int} {u : Tok} {Q : Value → Shared → Prop} (hl : s.heap.IsList l vs.toArray) (h0 : 0 ≤ k) (h1 : k < vs.length) (hlen : vs.length ≤ 65536) (h : ∀ v, v ∈ vs → Q v s)
    (hs : subscripted slice false (.ref l) (.int k u) = operate [.ref l, .int k u] (getItem (.ref l) (.int k u)) := by with_unfolding_all rfl) :
    wpAny (model prog w) A (subscriptTail value slice (.ref l) (.int k u)) Q E s := by
  have hk : k.toNat < vs.length := by omega
  exact item_litK (v := vs[k.toNat]) hl h0 (by omega) (List.getElem?_eq_getElem hk) (h _ (List.getElem_mem hk)) hs

theorem ln_One_1 : True := by
  k_with "call ref" => (k_here; (with_reducible show wpAny _ _ (call (Value.ref 314) [Value.ref _, Value.int _ _]) _ _ _); k_dflt (refine' take_use ?Bz9 ?Fz9 ?Xz9 ?Nz9 ?Tz9 ?Kz9 ?Uz9 ?Sz9 ?t1z9 ?t2z9 ?dz9 ?uz9 ?_; (case Bz9 => k_asm); (case Fz9 => k_asm); (case Xz9 => k_asm); (case Nz9 => k_asm); (case Tz9 => k_asm); (case Kz9 => first | exact rfl | assumption); (case Uz9 => k_updF); (case Sz9 => assumption); (case t1z9 => first | assumption | omega); (case t2z9 => first | assumption | omega); (case dz9 => ktr_room); (case uz9 => ktr_units); k_whole); intro r' t' o' h' tk' hr0' hr1' hS' F' N'; (try dsimp only); (try k_fold))
  k_with "subscriptTail" => (k_here; (with_reducible show wpAny _ _ (subscriptTail _ _ (Value.ref _) (Value.int _ _)) _ _ _); (with_unfolding_all refine' one_item ?k1z9 ?k2z9 ?k3z9 ?k4z9 ?_ ?k6z9; (case k1z9 => is_list); (case k2z9 => assumption); (case k3z9 => assumption); (case k4z9 => assumption); (case k6z9 => with_unfolding_all rfl); k_whole); intro v' hv')
  trivial

theorem len_vs {prog : Program} {w : World} {A : Around} {E : Value → Shared → Prop} {s : Shared} {l : Addr} {vs : List Value} {Q : Value → Shared → Prop} (hl : s.heap.IsList l vs.toArray) (hlen : vs.length ≤ 65536)
    (h : ∀ t tk, Q (.int vs.length t) { s with toks := tk }) : wpAny (model prog w) A (call (.builtin "len") [.ref l]) Q E s := by
  refine len_list hl ?_ ?_
  · rw [List.size_toArray]; omega
  · rw [List.size_toArray]; exact h _ _
theorem ln_One_2 : True := by
  k_with "call builtin:len" => (k_here; (with_reducible show wpAny _ _ (call (Value.builtin "len") [Value.ref _]) _ _ _); k_dflt (refine' len_vs ?k1z9 ?k2z9 ?_; (case k1z9 => first | is_list | exact News.isList (by k_asm) (by k_mem)); (case k2z9 => assumption); k_whole); intro t' tk'; (try dsimp only))
  trivial

set_option maxHeartbeats 4000000 in
theorem one_c (w : World) : ∀ {loose : List Str} {mean : ExcName → Option Value} {mg mb : Str → Option Value} (dp un : Nat) (gd : Option (List Code)) (cn : Str) (cs : Scope) (a : Addr) (ccd : Value) (cl : List (Str × Addr)) (outer : List Env) (A₀ : Around) (base h₀ : Heap) (L : Addr) (m : Str → Option Value) (s : Shared) (Q E : Value → Shared → Prop)
    (vs : List Value) (n : Nat) (src q : Addr) (o : Obj) (rest : List (Addr × Obj)),
    Below A₀ base outer h₀ → Fr h₀ L s.heap m → (Mine.kv.heap_1_1 w.params).In h₀ → News h₀ L s.heap ((src, o) :: (q, listOf vs.toArray n) :: rest) → Top Mine.kv.view_1_2 loose mean mg mb h₀ → cs.kind = .function →
    q ≠ src → OwnOff rest [src] → SrcObj o → vs.length ≤ 65536 → 0 < (vs.length : Int) → (vs.length : Int) ≤ 65536 → dp + 2 < recursionLimit → un + 20 < cLine →
    (∀ (v : Value) (o' : Obj) (h' : Heap) (tk' : Nat), v ∈ vs → SrcObj o' → Fr h₀ L h' m → News h₀ L h' ((src, o') :: (q, listOf vs.toArray n) :: rest) → Q v { s with heap := h', toks := tk' }) →
    wpAny (model PySem.Challenge.rw_ok0144_01.row.prog w) (ktrTop dp un gd cn cs L a ccd cl outer) (call (.ref 321) [.ref src, .ref q]) Q E s := by
  k_fill
  intro loose mean mg mb dp un gd cn cs a ccd cl outer A₀ base h₀ L m s Q E vs n src q o rest B F X N T hk qne off hS hl0 hl1 hl2 hd hu hret
  refine wpAny_call ?_
  k_dflt cell_enter
  k_steps
  exact hret _ _ _ _ (by assumption) (by assumption) (by assumption) (by assumption)

section
variable {w : World} {loose : List Str} {mean : ExcName → Option Value} {mg mb : Str → Option Value} {dp un : Nat} {gd : Option (List Code)} {cn : Str} {cs : Scope} {a : Addr} {ccd : Value} {cl : List (Str × Addr)} {outer : List Env} {A₀ : Around} {base h₀ : Heap} {L : Addr} {m : Str → Option Value} {s : Shared} {Q E : Value → Shared → Prop}
    {vs : List Value} {n : Nat} {src q : Addr} {o : Obj} {news : List (Addr × Obj)} {g : Obj → List (Addr × Obj)}
theorem one_use
    (B : Below A₀ base outer h₀) (F : Fr h₀ L s.heap m) (X : (Mine.kv.heap_1_1 w.params).In h₀) (N : News h₀ L s.heap ((q, listOf vs.toArray n) :: news)) (T : Top Mine.kv.view_1_2 loose mean mg mb h₀) (hk : cs.kind = .function)
    (hq : q ≠ src) (U : UpdF src o news g) (S : SrcObj o) (h0 : 0 < vs.length) (h1 : vs.length ≤ 65536) (hd : dp + 2 < recursionLimit) (hu : un + 20 < cLine)
    (ret : ∀ (v : Value) (o' : Obj) (h' : Heap) (tk' : Nat), v ∈ vs → SrcObj o' → Fr h₀ L h' m → News h₀ L h' (g o') → Q v { s with heap := h', toks := tk' }) :
    wpAny (model PySem.Challenge.rw_ok0144_01.row.prog w) (ktrTop dp un gd cn cs L a ccd cl outer) (call (.ref 321) [.ref src, .ref q]) Q E s := by
  obtain ⟨pre, post, rfl, hg, q1, q2⟩ := U.split
  refine one_c w dp un gd cn cs a ccd cl outer A₀ base h₀ L m s Q E vs n src q o (pre ++ post) B F X (fun p hp => N p ?_) T hk (fun e => ?_) (fun p hp b hb => ?_) S h1 (by omega) (by omega) hd hu
    fun v o' h' tk' h1 h2 F' N' => ret v o' h' tk' h1 h2 F' fun p hp => N' p ?_
  · simp only [List.mem_cons, List.mem_append] at hp ⊢
    rcases hp with hp | hp | hp | hp <;> simp only [hp, true_or, or_true]
  · exact hq e
  · rw [List.mem_singleton.mp hb]
    rcases List.mem_append.mp hp with hp | hp
    · exact q1 p hp
    · exact q2 p hp
  · rw [hg] at hp
    simp only [List.mem_cons, List.mem_append] at hp ⊢
    rcases hp with hp | hp | hp <;> simp only [hp, true_or, or_true]

def intsOf : List Value → List Int
  | [] => []
  | .int x _ :: r => x :: intsOf r
  | _ :: r => intsOf r
def allInts : List Value → Bool
  | [] => true
  | .int _ _ :: r => allInts r
  | _ :: _ => false
def textsOf : List Value → List Str
  | [] => []
  | .str x _ :: r => x :: textsOf r
  | _ :: r => textsOf r
def allTexts : List Value → Bool
  | [] => true
  | .str _ _ :: r => allTexts r
  | _ :: _ => false
theorem ints_mem : ∀ {vs : List Value}, allInts vs = true → ∀ {v : Value}, v ∈ vs → ∃ x t, v = .int x t ∧ x ∈ intsOf vs
  | .int y u :: r, h, v, hv => by
    rcases List.mem_cons.mp hv with rfl | hv
    · exact ⟨y, u, rfl, .head _⟩
    · obtain ⟨x, t, e, hx⟩ := ints_mem (vs := r) h hv
      exact ⟨x, t, e, .tail _ hx⟩
theorem texts_mem : ∀ {vs : List Value}, allTexts vs = true → ∀ {v : Value}, v ∈ vs → ∃ x t, v = .str x t ∧ x ∈ textsOf vs
  | .str y u :: r, h, v, hv => by
    rcases List.mem_cons.mp hv with rfl | hv
    · exact ⟨y, u, rfl, .head _⟩
    · obtain ⟨x, t, e, hx⟩ := texts_mem (vs := r) h hv
      exact ⟨x, t, e, .tail _ hx⟩

theorem one_int (hi : allInts vs = true)
    (B : Below A₀ base outer h₀) (F : Fr h₀ L s.heap m) (X : (Mine.kv.heap_1_1 w.params).In h₀) (N : News h₀ L s.heap ((q, listOf vs.toArray n) :: news)) (T : Top Mine.kv.view_1_2 loose mean mg mb h₀) (hk : cs.kind = .function)
    (hq : q ≠ src) (U : UpdF src o news g) (S : SrcObj o) (h0 : 0 < vs.length) (h1 : vs.length ≤ 65536) (hd : dp + 2 < recursionLimit) (hu : un + 20 < cLine)
    (ret : ∀ (x : Int) (t : Tok) (o' : Obj) (h' : Heap) (tk' : Nat), x ∈ intsOf vs → SrcObj o' → Fr h₀ L h' m → News h₀ L h' (g o') → Q (.int x t) { s with heap := h', toks := tk' }) :
    wpAny (model PySem.Challenge.rw_ok0144_01.row.prog w) (ktrTop dp un gd cn cs L a ccd cl outer) (call (.ref 321) [.ref src, .ref q]) Q E s :=
  one_use B F X N T hk hq U S h0 h1 hd hu fun v o' h' tk' hv S' F' N' => by
    obtain ⟨x, t, rfl, hx⟩ := ints_mem hi hv
    exact ret x t o' h' tk' hx S' F' N'
theorem one_str (hi : allTexts vs = true)
    (B : Below A₀ base outer h₀) (F : Fr h₀ L s.heap m) (X : (Mine.kv.heap_1_1 w.params).In h₀) (N : News h₀ L s.heap ((q, listOf vs.toArray n) :: news)) (T : Top Mine.kv.view_1_2 loose mean mg mb h₀) (hk : cs.kind = .function)
    (hq : q ≠ src) (U : UpdF src o news g) (S : SrcObj o) (h0 : 0 < vs.length) (h1 : vs.length ≤ 65536) (hd : dp + 2 < recursionLimit) (hu : un + 20 < cLine)
    (ret : ∀ (x : Str) (t : Tok) (o' : Obj) (h' : Heap) (tk' : Nat), x ∈ textsOf vs → SrcObj o' → Fr h₀ L h' m → News h₀ L h' (g o') → Q (.str x t) { s with heap := h', toks := tk' }) :
    wpAny (model PySem.Challenge.rw_ok0144_01.row.prog w) (ktrTop dp un gd cn cs L a ccd cl outer) (call (.ref 321) [.ref src, .ref q]) Q E s :=
  one_use B F X N T hk hq U S h0 h1 hd hu fun v o' h' tk' hv S' F' N' => by
    obtain ⟨x, t, rfl, hx⟩ := texts_mem hi hv
    exact ret x t o' h' tk' hx S' F' N'
end
end One
local macro_rules | `(tactic| k_room) => `(tactic| ((try simp only [depth_mark, depth_under_make, depth_under_kw, depth_in1, depth_deeper, depth_caller]); (try dsimp only [ktrTop]); omega))
local macro_rules | `(tactic| ktr_room) => `(tactic| ((try simp only [depth_mark, depth_under_make, depth_under_kw, depth_in1, depth_deeper, depth_caller]); (try dsimp only [ktrTop]); omega))
local macro_rules | `(tactic| ktr_units) => `(tactic| (have hcL9 := cLine_is; (try simp only [units_in1, units_deeper, Around.mark_units, units_caller]); (try dsimp only [ktrTop]); omega))
section Comp
/-- a component's dict -/
def CompD (od : Obj) (i a d q : Int) : Prop := ∃ (H1 H2 H3 H4 : Int) (t1 t2 t3 t4 u1 u2 u3 u4 : Tok) (n : Nat), od = dictOf [⟨H1, .str (Str.ofString "ident") t1, .int i u1⟩, ⟨H2, .str (Str.ofString "across") t2, .int a u2⟩, ⟨H3, .str (Str.ofString "down") t3, .int d u3⟩, ⟨H4, .str (Str.ofString "quant") t4, .int q u4⟩] n

set_option maxHeartbeats 4000000 in
theorem comp_c (w : World) : ∀ {loose : List Str} {mean : ExcName → Option Value} {mg mb : Str → Option Value} {dp un : Nat} {gd : Option (List Code)} {cn : Str} {cs : Scope} {a : Addr} {ccd : Value} {cl : List (Str × Addr)} {outer : List Env} {A₀ : Around} {base h₀ : Heap} {L : Addr} {m : Str → Option Value} {s : Shared} {Q E : Value → Shared → Prop} {i ac do' qu : Int} {ti ta td tq : Tok} {news : List (Addr × Obj)},
    Below A₀ base outer h₀ → Fr h₀ L s.heap m → (Mine.kv.heap_1_1 w.params).In h₀ → News h₀ L s.heap (news) → Top Mine.kv.view_1_2 loose mean mg mb h₀ → cs.kind = .function → dp + 5 < recursionLimit → un + 20 < cLine →
    (∀ (x dx : Addr) (od : Obj) (h' : Heap) (tk' : Nat), CompD od i ac do' qu → Fr h₀ L h' m → News h₀ L h' ((x, instObj 45 dx) :: (dx, od) :: news) → (∀ p ∈ news, p.1 < dx) → dx < x → Q (.ref x) { s with heap := h', toks := tk' }) →
    wpAny (model PySem.Challenge.rw_ok0144_01.row.prog w) (ktrTop dp un gd cn cs L a ccd cl outer) (call (.ref 45) [.int i ti, .int ac ta, .int do' td, .int qu tq]) Q E s := by
  k_fill
  intro loose mean mg mb dp un gd cn cs a ccd cl outer A₀ base h₀ L m s Q E i ac do' qu ti ta td tq news B F X N T hk hd hu hret
  k_dflt (refine' call_cls ?k1 ?k2 ?k3 ?k4 ?k5 ?k6 ?_; (case k1 => k_asm); (case k2 => k_asm); (case k3 => k_asm); (case k4 => k_is); (case k5 => k_is); (case k6 => k_is); k_whole; intro x' d' h' F' N' l1 l2; (have l1' := l1); (try k_lt l1); (try k_lt2 l2); (try k_sweep); cell_enter)
  k_steps
  exact hret _ _ _ _ _ ⟨_, _, _, _, _, _, _, _, _, _, _, _, _, rfl⟩ (by assumption) (by assumption) l1' l2
end Comp
section Pool
theorem big_ok (z : Int) (c : Prop) [Decidable c] : 0 ≤ (if -1 - z > z then -1 - z else z) * (if c then (1 : Int) else 0) := by
  have h : 0 ≤ (if -1 - z > z then -1 - z else z) := by split <;> omega
  by_cases hc : c
  · rw [if_pos hc]; omega
  · rw [if_neg hc]; omega
set_option maxHeartbeats 4000000 in
theorem pool_c (w : World) : ∀ {loose : List Str} {mean : ExcName → Option Value} {mg mb : Str → Option Value} {dp un : Nat} {gd : Option (List Code)} {cn : Str} {cs : Scope} {a : Addr} {ccd : Value} {cl : List (Str × Addr)} {outer : List Env} {A₀ : Around} {base h₀ : Heap} {L : Addr} {m : Str → Option Value} {s : Shared} {Q E : Value → Shared → Prop} {sl : Addr} {vs : List Value} {ns : List Int} {t : Tok} {news : List (Addr × Obj)},
    Below A₀ base outer h₀ → Fr h₀ L s.heap m → (Mine.kv.heap_1_1 w.params).In h₀ → News h₀ L s.heap (news) → Top Mine.kv.view_1_2 loose mean mg mb h₀ → cs.kind = .function → h₀.IsList sl vs.toArray → IntsAre vs ns → PyData.layable0 (.list (ns.map .int)) = true → ns.length ≤ 63 → dp + 10 < recursionLimit → un + 200 < cLine →
    (∀ (src : Addr) (o : Obj) (h' : Heap) (tk' : Nat), SrcObj o → Fr h₀ L h' m → News h₀ L h' ((src, o) :: news) → AllLt src news → Q (.ref src) { s with heap := h', toks := tk' }) →
    wpAny (model PySem.Challenge.rw_ok0144_01.row.prog w) (ktrTop dp un gd cn cs L a ccd cl outer) (call (.ref 307) [.ref sl, .int 0 t]) Q E s := by
  k_fill
  intro loose mean mg mb dp un gd cn cs a ccd cl outer A₀ base h₀ L m s Q E sl vs ns t news B F X N T hk hl hI hlay hn hd hu hret
  refine wpAny_call ?_
  k_dflt cell_enter
  rename Fr h₀ L _ m => FG
  have hl2 := Fr.lst FG hl
  clear hl
  k_steps
  all_goals (rename Fr _ _ _ _ => kF9)
  all_goals (rename News _ _ _ _ => kN9)
  all_goals exact hret _ _ _ _ ⟨_, _, _, _, _, rfl, big_ok _ _, (fmod_b _ _ (by decide)).1, (fmod_b _ _ (by decide)).2⟩ kF9 kN9 (allLt_of (by assumption))
end Pool
section Frm
abbrev kinds : List Str := [Str.ofString "baseline", Str.ofString "extended", Str.ofString "progressive", Str.ofString "arith", Str.ofString "arith progressive"]
/-- a frame's dict -/
def FrameD (od : Obj) (kind : Str) (p h wd : Int) (lst : Addr) (n : Int) : Prop := ∃ (H1 H2 H3 H4 H5 H6 : Int) (t1 t2 t3 t4 t5 t6 u1 u2 u3 u4 u6 : Tok) (nn : Nat), od = dictOf [⟨H1, .str (Str.ofString "kind") t1, .str kind u1⟩, ⟨H2, .str (Str.ofString "precision") t2, .int p u2⟩, ⟨H3, .str (Str.ofString "height") t3, .int h u3⟩, ⟨H4, .str (Str.ofString "width") t4, .int wd u4⟩, ⟨H5, .str (Str.ofString "components") t5, .ref lst⟩, ⟨H6, .str (Str.ofString "n") t6, .int n u6⟩] nn
/-- how many components -/
theorem cntN {x : Int} (h : x ∈ [(3 : Int), 1, 4, 2, 3]) : ∃ n : Nat, x = (n : Int) ∧ 1 ≤ n ∧ n ≤ 4 := by
  simp only [List.mem_cons, List.not_mem_nil, or_false] at h
  exact ⟨x.toNat, by omega, by omega, by omega⟩
theorem cnt4 {x : Int} (h : x ∈ [(3 : Int), 1, 4, 2, 3]) : x = 1 ∨ x = 2 ∨ x = 3 ∨ x = 4 := by
  simp only [List.mem_cons, List.not_mem_nil, or_false] at h
  omega
theorem and1 {a0 c : Prop} (h : a0 ∧ c) : c := h.2
theorem and2 {a0 a1 c : Prop} (h : a0 ∧ a1 ∧ c) : c := h.2.2
theorem and3 {a0 a1 a2 c : Prop} (h : a0 ∧ a1 ∧ a2 ∧ c) : c := h.2.2.2
theorem and4 {a0 a1 a2 a3 c : Prop} (h : a0 ∧ a1 ∧ a2 ∧ a3 ∧ c) : c := h.2.2.2.2
theorem and5 {a0 a1 a2 a3 a4 c : Prop} (h : a0 ∧ a1 ∧ a2 ∧ a3 ∧ a4 ∧ c) : c := h.2.2.2.2.2
theorem and6 {a0 a1 a2 a3 a4 a5 c : Prop} (h : a0 ∧ a1 ∧ a2 ∧ a3 ∧ a4 ∧ a5 ∧ c) : c := h.2.2.2.2.2.2
theorem and7 {a0 a1 a2 a3 a4 a5 a6 c : Prop} (h : a0 ∧ a1 ∧ a2 ∧ a3 ∧ a4 ∧ a5 ∧ a6 ∧ c) : c := h.2.2.2.2.2.2.2
theorem and8 {a0 a1 a2 a3 a4 a5 a6 a7 c : Prop} (h : a0 ∧ a1 ∧ a2 ∧ a3 ∧ a4 ∧ a5 ∧ a6 ∧ a7 ∧ c) : c := h.2.2.2.2.2.2.2.2
theorem and9 {a0 a1 a2 a3 a4 a5 a6 a7 a8 c : Prop} (h : a0 ∧ a1 ∧ a2 ∧ a3 ∧ a4 ∧ a5 ∧ a6 ∧ a7 ∧ a8 ∧ c) : c := h.2.2.2.2.2.2.2.2.2
theorem and10 {a0 a1 a2 a3 a4 a5 a6 a7 a8 a9 c : Prop} (h : a0 ∧ a1 ∧ a2 ∧ a3 ∧ a4 ∧ a5 ∧ a6 ∧ a7 ∧ a8 ∧ a9 ∧ c) : c := h.2.2.2.2.2.2.2.2.2.2
theorem and11 {a0 a1 a2 a3 a4 a5 a6 a7 a8 a9 a10 c : Prop} (h : a0 ∧ a1 ∧ a2 ∧ a3 ∧ a4 ∧ a5 ∧ a6 ∧ a7 ∧ a8 ∧ a9 ∧ a10 ∧ c) : c := h.2.2.2.2.2.2.2.2.2.2.2
theorem and12 {a0 a1 a2 a3 a4 a5 a6 a7 a8 a9 a10 a11 c : Prop} (h : a0 ∧ a1 ∧ a2 ∧ a3 ∧ a4 ∧ a5 ∧ a6 ∧ a7 ∧ a8 ∧ a9 ∧ a10 ∧ a11 ∧ c) : c := h.2.2.2.2.2.2.2.2.2.2.2.2
theorem and13 {a0 a1 a2 a3 a4 a5 a6 a7 a8 a9 a10 a11 a12 c : Prop} (h : a0 ∧ a1 ∧ a2 ∧ a3 ∧ a4 ∧ a5 ∧ a6 ∧ a7 ∧ a8 ∧ a9 ∧ a10 ∧ a11 ∧ a12 ∧ c) : c := h.2.2.2.2.2.2.2.2.2.2.2.2.2
theorem and14 {a0 a1 a2 a3 a4 a5 a6 a7 a8 a9 a10 a11 a12 a13 c : Prop} (h : a0 ∧ a1 ∧ a2 ∧ a3 ∧ a4 ∧ a5 ∧ a6 ∧ a7 ∧ a8 ∧ a9 ∧ a10 ∧ a11 ∧ a12 ∧ a13 ∧ c) : c := h.2.2.2.2.2.2.2.2.2.2.2.2.2.2
theorem and15 {a0 a1 a2 a3 a4 a5 a6 a7 a8 a9 a10 a11 a12 a13 a14 c : Prop} (h : a0 ∧ a1 ∧ a2 ∧ a3 ∧ a4 ∧ a5 ∧ a6 ∧ a7 ∧ a8 ∧ a9 ∧ a10 ∧ a11 ∧ a12 ∧ a13 ∧ a14 ∧ c) : c := h.2.2.2.2.2.2.2.2.2.2.2.2.2.2.2
theorem and16 {a0 a1 a2 a3 a4 a5 a6 a7 a8 a9 a10 a11 a12 a13 a14 a15 c : Prop} (h : a0 ∧ a1 ∧ a2 ∧ a3 ∧ a4 ∧ a5 ∧ a6 ∧ a7 ∧ a8 ∧ a9 ∧ a10 ∧ a11 ∧ a12 ∧ a13 ∧ a14 ∧ a15 ∧ c) : c := h.2.2.2.2.2.2.2.2.2.2.2.2.2.2.2.2
inductive Del (I : Addr) (it : Obj) : List (Addr × Obj) → List (Addr × Obj) → Prop
  | head {r : List (Addr × Obj)} : (∀ p ∈ r, p.1 ≠ I) → Del I it ((I, it) :: r) r
  | tail {p : Addr × Obj} {r r' : List (Addr × Obj)} : p.1 ≠ I → Del I it r r' → Del I it (p :: r) (p :: r')
theorem Del.spec {I : Addr} {it : Obj} {all news' : List (Addr × Obj)} (D : Del I it all news') : (I, it) ∈ all ∧ (∀ p ∈ news', p ∈ all) ∧ ∀ p ∈ news', p.1 ≠ I := by
  induction D with
  | head h => exact ⟨.head _, fun p hp => .tail _ hp, h⟩
  | tail h _ ih =>
    refine ⟨.tail _ ih.1, fun p hp => ?_, fun p hp => ?_⟩
    · rcases List.mem_cons.mp hp with rfl | hp
      · exact .head _
      · exact .tail _ (ih.2.1 p hp)
    · rcases List.mem_cons.mp hp with rfl | hp
      · exact h
      · exact ih.2.2 p hp
theorem unr_del {h₀ : Heap} {L I : Addr} {it : Obj} {rest : (Str → Option Value) → List (Addr × Obj) → Prop} {s₁ : Shared} {h' : Heap} {tk : Nat} {m' : Str → Option Value} {all news' : List (Addr × Obj)} (F : Fr h₀ L h' m') (N : News h₀ L h' all)
    (D : Del I it all news') (r : rest m' news') : UnrEnd h₀ L s₁ I it rest { s₁ with heap := h', toks := tk } :=
  UnrEnd.intro F N news' (fun p hp => by
    rcases List.mem_cons.mp hp with rfl | hp
    · exact D.spec.1
    · exact D.spec.2.1 p hp) D.spec.2.2 r
end Frm
section Row
theorem news_more {h₀ h : Heap} {L : Addr} {l news : List (Addr × Obj)} (N : News h₀ L h news) (S : SubL l news) : News h₀ L h (l ++ news) := fun p hp => N p ((List.mem_append.mp hp).elim (S.mem p) id)
theorem news_cut {h₀ h : Heap} {L : Addr} (l1 l2 : List (Addr × Obj)) {news : List (Addr × Obj)} (N : News h₀ L h (l1 ++ (l2 ++ news))) : News h₀ L h (l1 ++ news) := fun p hp => N p ((List.mem_append.mp hp).elim (fun h => List.mem_append_left _ h) fun h => List.mem_append_right _ (List.mem_append_right _ h))
inductive Del3 (I C D : Addr) : List (Addr × Obj) → List (Addr × Obj) → Prop
  | stop {r : List (Addr × Obj)} : LCg.Off3 I C D r → Del3 I C D r r
  | dropI {o : Obj} {r r' : List (Addr × Obj)} : Del3 I C D r r' → Del3 I C D ((I, o) :: r) r'
  | dropC {o : Obj} {r r' : List (Addr × Obj)} : Del3 I C D r r' → Del3 I C D ((C, o) :: r) r'
  | dropD {o : Obj} {r r' : List (Addr × Obj)} : Del3 I C D r r' → Del3 I C D ((D, o) :: r) r'
  | keep {p : Addr × Obj} {r r' : List (Addr × Obj)} : p.1 ≠ I → p.1 ≠ C → p.1 ≠ D → Del3 I C D r r' → Del3 I C D (p :: r) (p :: r')
theorem Del3.spec {I C D : Addr} {all news' : List (Addr × Obj)} (h : Del3 I C D all news') : (∀ p ∈ news', p ∈ all) ∧ LCg.Off3 I C D news' := by
  induction h with
  | stop h => exact ⟨fun p hp => hp, h⟩
  | dropI _ ih => exact ⟨fun p hp => .tail _ (ih.1 p hp), ih.2⟩
  | dropC _ ih => exact ⟨fun p hp => .tail _ (ih.1 p hp), ih.2⟩
  | dropD _ ih => exact ⟨fun p hp => .tail _ (ih.1 p hp), ih.2⟩
  | keep a b c _ ih =>
    refine ⟨fun p hp => ?_, ⟨a, b, c⟩, ih.2⟩
    rcases List.mem_cons.mp hp with rfl | hp
    · exact .head _
    · exact .tail _ (ih.1 p hp)
theorem comp_del {h₀ : Heap} {L I C D : Addr} {m : Str → Option Value} {s₁ : Shared} {oI oC oD : Obj} {S : List (Addr × Obj) → Prop} {rest : Value → List (Addr × Obj) → Prop} {y : Value} {h' : Heap} {tk : Nat} {all news' : List (Addr × Obj)}
    (F : Fr h₀ L h' m) (N : News h₀ L h' all) (m1 : (I, oI) ∈ all) (m2 : (C, oC) ∈ all) (m3 : (D, oD) ∈ all) (h : Del3 I C D all news') (hS : S news') (r : rest y news') :
    LCg.CompEnd h₀ L m s₁ I oI C oC D oD S rest y { s₁ with heap := h', toks := tk } :=
  LCg.CompEnd.intro F N news' (fun p hp => by
    rcases List.mem_cons.mp hp with rfl | hp
    · exact m1
    · rcases List.mem_cons.mp hp with rfl | hp
      · exact m2
      · rcases List.mem_cons.mp hp with rfl | hp
        · exact m3
        · exact h.spec.1 p hp) h.spec.2 hS r

theorem off1_at {D : Addr} {l : List (Addr × Obj)} (h : LCg.Off1 D l) {a : Addr} {o : Obj} (hm : (a, o) ∈ l) : a ≠ D := by
  induction l with
  | nil => cases hm
  | cons p r ih =>
    rcases List.mem_cons.mp hm with e | hm
    · have h1 : p.1 ≠ D := h.1
      rw [← e] at h1
      exact h1
    · exact ih h.2 hm
end Row
section Rows
abbrev tupOf (its : Array Value) (n : Nat) : Obj := { cls := .type "tuple", data := .seq its n }
/-- a row of divisors: a list or a tuple of ints -/
def RowO (o : Obj) (ns : List Int) : Prop := ∃ (vs : List Value) (n : Nat), IntsAre vs ns ∧ ns.length ≤ 9 ∧ (o = listOf vs.toArray n ∨ o = tupOf vs.toArray n)
/-- a row as a tuple -/
def TupO (o : Obj) (ns : List Int) : Prop := ∃ (vs : List Value) (n : Nat), IntsAre vs ns ∧ ns.length ≤ 9 ∧ o = tupOf vs.toArray n

section
variable {prog : Program} {w : World} {A : Around} {E : Value → Shared → Prop} {s : Shared} {h₀ : Heap} {L l : Addr} {m : Str → Option Value} {news : List (Addr × Obj)} {Q : Value → Shared → Prop}
theorem line9 {vs : List Value} {ns : List Int} (hi : IntsAre vs ns) (hl : ns.length ≤ 9) : vs.toArray.size ≤ sizeLine := by
  rw [List.size_toArray, hi.length, sizeLine_eq]; omega

def GtAll (τ : Addr) (news : List (Addr × Obj)) : Prop := ∀ p ∈ news, p.1 < τ
/-- tuple(a list that the call made) -/
theorem tuple_lst {vs : List Value} {n : Nat} {ns : List Int} (F : Fr h₀ L s.heap m) (N : News h₀ L s.heap news) (hm : (l, listOf vs.toArray n) ∈ news) (hi : IntsAre vs ns) (hl : ns.length ≤ 9)
    (ret : ∀ (τ : Addr) (h' : Heap), Fr h₀ L h' m → News h₀ L h' ((τ, tupOf vs.toArray 0) :: news) → GtAll τ news → Q (.ref τ) { s with heap := h' }) :
    wpAny (model prog w) A (call (.type "tuple") [.ref l]) Q E s := by
  refine call_tuple_list (News.isList N hm) (fun h' hk => ?_) (line9 hi hl)
  have F' : Fr h₀ L h' m := F.keeps hk
  have N' : News h₀ L h' news := fun p hp => ⟨hk _ _ (N p hp).1, (N p hp).2⟩
  exact ret _ _ (F'.push _) (News.push F' N' _) fun p hp => Heap.lt_size (N' p hp).1

theorem new_tuple {vs : List Value} (F : Fr h₀ L s.heap m) (N : News h₀ L s.heap news)
    (ret : ∀ (τ : Addr) (h' : Heap), Fr h₀ L h' m → News h₀ L h' ((τ, tupOf vs.toArray 0) :: news) → (∀ p ∈ news, p.1 < τ) → Q (.ref τ) { s with heap := h' }) (hsz : vs.length ≤ sizeLine := by size_fits) : wpAny (model prog w) A (newTuple vs) Q E s :=
  newTuple_N F N (fun h' F' N' => ret _ h' F' N' fun p hp => Heap.lt_size (N p hp).1) hsz
/-- tuple(row): the row itself, or a new one -/
theorem tuple_row {o : Obj} {ns : List Int} (F : Fr h₀ L s.heap m) (N : News h₀ L s.heap news) (hm : (l, o) ∈ news) (hR : RowO o ns)
    (ret : ∀ (τ : Addr) (oτ : Obj) (h' : Heap), TupO oτ ns → Fr h₀ L h' m → News h₀ L h' ((τ, oτ) :: news) → @LE.le Nat _ l τ → Q (.ref τ) { s with heap := h' }) :
    wpAny (model prog w) A (call (.type "tuple") [.ref l]) Q E s := by
  obtain ⟨vs, n, hi, hl, rfl | rfl⟩ := hR
  · exact tuple_lst F N hm hi hl fun τ h' F' N' h1 => ret τ _ h' ⟨vs, 0, hi, hl, rfl⟩ F' N' (Nat.le_of_lt (h1 _ hm))
  · refine call_tuple_same ⟨_, (N _ hm).1, rfl, n, rfl⟩ (ret l _ s.heap ⟨vs, n, hi, hl, rfl⟩ F (fun p hp => ?_) (Nat.le_refl _))
    rcases List.mem_cons.mp hp with rfl | hp
    · exact N _ hm
    · exact N p hp

/-- list(row): a new list -/
theorem list_row {o : Obj} {ns : List Int} (F : Fr h₀ L s.heap m) (N : News h₀ L s.heap news) (hm : (l, o) ∈ news) (hR : RowO o ns)
    (ret : ∀ (τ : Addr) (vs : List Value) (n : Nat) (h' : Heap), IntsAre vs ns → Fr h₀ L h' m → News h₀ L h' ((τ, listOf vs.toArray n) :: news) → (∀ p ∈ news, p.1 < τ) → Q (.ref τ) { s with heap := h' }) :
    wpAny (model prog w) A (call (.type "list") [.ref l]) Q E s := by
  obtain ⟨vs, n, hi, hl, ho⟩ := hR
  have hn : h₀.get? s.heap.objs.size = none := none_at_size F
  have hL : s.heap.objs.size ≠ L := Nat.ne_of_gt F.ns.lt
  have fin : ∀ h' c', (∀ b o', s.heap.get? b = some o' → h'.get? b = some o') → h'.get? s.heap.objs.size = some (listOf vs.toArray c') → Q (.ref s.heap.objs.size) { s with heap := h' } := fun h' c' hk hD =>
    ret _ vs c' h' hi (F.keeps hk) (fun p hp => by
      rcases List.mem_cons.mp hp with rfl | hp
      · exact ⟨hD, hL, hn⟩
      · exact ⟨hk _ _ (N p hp).1, (N p hp).2⟩) fun p hp => Heap.lt_size (N p hp).1
  rcases ho with rfl | rfl
  · exact call_list_seq (hsz := line9 hi hl) l (.inl rfl) (N _ hm).1 rfl rfl fin
  · exact call_list_seq (hsz := line9 hi hl) l (.inr rfl) (N _ hm).1 rfl rfl fin

/-- both ways of «tuple(row) if .. else row» are a row -/
def RowJ (h₀ : Heap) (L : Addr) (m : Str → Option Value) (base : List (Addr × Obj)) (g : Obj → List (Addr × Obj)) (ns : List Int) (s : Shared) (v : Value) (s₂ : Shared) : Prop :=
  ∃ (ρ : Addr) (oρ o' : Obj) (h' : Heap) (tk' : Nat), v = .ref ρ ∧ s₂ = { s with heap := h', toks := tk' } ∧ RowO oρ ns ∧ SrcObj o' ∧ Fr h₀ L h' m ∧ News h₀ L h' ((ρ, oρ) :: g o') ∧ AllLt ρ base
structure RowMark (l : Addr) (base : List (Addr × Obj)) (ws : List Value) (ns : List Int) : Prop where
  lt : AllLt l base
  hi : IntsAre ws ns
  hl : ns.length ≤ 9
theorem row_join {base : List (Addr × Obj)} {g : Obj → List (Addr × Obj)} {src : Addr} {o : Obj} {ws : List Value} {ns : List Int} {c : Sem Value} {t2 t3 t4 t5 t6 t7 : Addr × Obj} (_F : Fr h₀ L s.heap m) (_N : News h₀ L s.heap ((l, listOf ws.toArray 0) :: t2 :: t3 :: t4 :: t5 :: t6 :: t7 :: base)) (_S : SrcObj o) (_M : (src, o) ∈ base) (_U : UpdF src o base g)
    (hi : IntsAre ws ns) (hl : ns.length ≤ 9) (lt : AllLt l base)
    (hc : RowMark l base ws ns → wpAny (model prog w) A c (RowJ h₀ L m base g ns s) E s)
    (hk : ∀ (ρ : Addr) (oρ o' : Obj) (h' : Heap) (tk' : Nat), RowO oρ ns → SrcObj o' → Fr h₀ L h' m → News h₀ L h' ((ρ, oρ) :: g o') → AllLt ρ base → Q (.ref ρ) { s with heap := h', toks := tk' }) : wpAny (model prog w) A c Q E s := by
  refine wpAny_mono (hc ⟨lt, hi, hl⟩) (fun v s₂ hq => ?_) fun _ _ h => h
  obtain ⟨ρ, oρ, o', h', tk', rfl, rfl, h1, h2, h3, h4, h5⟩ := hq
  exact hk ρ oρ o' h' tk' h1 h2 h3 h4 h5
end
end Rows
section Div
theorem SubL.tl {p : Addr × Obj} {l all : List (Addr × Obj)} (h : SubL l all) : SubL l (p :: all) := by
  induction l with
  | nil => trivial
  | cons q r ih => exact ⟨.tail _ h.1, ih h.2⟩
theorem news_mid {h₀ h : Heap} {L : Addr} {p : Addr × Obj} {l news : List (Addr × Obj)} (N : News h₀ L h (p :: news)) (S : SubL l news) : News h₀ L h (p :: (l ++ news)) := fun q hq => by
  rcases List.mem_cons.mp hq with rfl | hq
  · exact N _ (.head _)
  · exact N q (.tail _ ((List.mem_append.mp hq).elim (S.mem q) id))
theorem off_more {src : Addr} {l news : List (Addr × Obj)} (H : OwnOff news [src]) (S : SubL l news) : OwnOff (l ++ news) [src] := fun q hq => H q ((List.mem_append.mp hq).elim (S.mem q) id)
theorem n23 {n : Int} (h : n ∈ [(2 : Int), 3]) : n = 2 ∨ n = 3 := by
  simpa using h
theorem rep_ints (c : Int) (t : Tok) (m : Nat) : ∀ (acc : Array Value) (ns : List Int), IntsAre acc.toList ns → ∃ ms, IntsAre (List.foldl (fun x1 x2 => x1 ++ x2) acc (List.replicate m #[Value.int c t])).toList ms ∧ ms.length = ns.length + m := by
  induction m with
  | zero => intro acc ns h; exact ⟨ns, h, rfl⟩
  | succ m ih =>
    intro acc ns h
    rw [List.replicate_succ, List.foldl_cons]
    obtain ⟨ms, h1, h2⟩ := ih (acc ++ #[Value.int c t]) (ns ++ [c]) (by rw [Array.toList_append]; exact h.append (.cons c t .nil))
    exact ⟨ms, h1, by rw [h2, List.length_append]; simp; omega⟩
section
variable {prog : Program} {w : World} {A : Around} {E : Value → Shared → Prop} {s : Shared} {h₀ : Heap} {L l : Addr} {m : Str → Option Value} {news : List (Addr × Obj)}
theorem mul_seven {c : Int} {t u : Tok} {k : Nat} {z : Int} {Q : Value → Shared → Prop} (F : Fr h₀ L s.heap m) (N : News h₀ L s.heap news) (hm : (l, listOf #[.int c t] k) ∈ news) (hz : 0 ≤ z ∧ z ≤ 7)
    (ret : ∀ (l' : Addr) (vs : List Value) (ms : List Int) (h' : Heap), IntsAre vs ms → ms.length ≤ 7 → Fr h₀ L h' m → News h₀ L h' ((l', listOf vs.toArray 0) :: news) → (∀ p ∈ news, p.1 < l') → Q (.ref l') { s with heap := h' }) :
    wpAny (model prog w) A (binaryOp .Mult (.ref l) (.int z u)) Q E s := by
  refine mul_list F N (N _ hm).1 (by omega) (by omega) ?_ fun h' F' N' => ?_
  · show 1 * z.toNat ≤ 2 ^ 24
    omega
  · obtain ⟨ms, h1, h2⟩ := rep_ints c t z.toNat #[] [] .nil
    refine ret _ _ ms h' h1 (by rw [h2]; simp; omega) F' ?_ fun p hp => Heap.lt_size (N p hp).1
    have e : (List.foldl (fun x1 x2 => x1 ++ x2) #[] (List.replicate z.toNat #[Value.int c t])).toList.toArray = List.foldl (fun x1 x2 => x1 ++ x2) #[] (List.replicate (if (#[Value.int c t] : Array Value).isEmpty = true then 0 else z.toNat) #[Value.int c t]) := rfl
    rw [e]
    exact N'
end
end Div
section Forr
section
variable {prog : Program} {w : World} {A : Around} {E : Value → Shared → Prop} {s : Shared} {env : Env} {h₀ : Heap} {L : Addr} {m₀ : Str → Option Value} {news₀ : List (Addr × Obj)} {Q : Flow → Shared → Prop}

/-- what a turn of a loop over a range hands on -/
def TurnEnd (h₀ : Heap) (L : Addr) (J : (Str → Option Value) → List (Addr × Obj) → Prop) (I : Addr) (it : Obj) (s₁ s₂ : Shared) : Prop :=
  ∃ h' tk m' news', s₂ = { s₁ with heap := h', toks := tk } ∧ Fr h₀ L h' m' ∧ News h₀ L h' ((I, it) :: news') ∧ (∀ p ∈ news', p.1 ≠ I) ∧ J m' news'
def TurnPost (h₀ : Heap) (L : Addr) (J : (Str → Option Value) → List (Addr × Obj) → Prop) (I : Addr) (it : Obj) (s₁ : Shared) (Q : Flow → Shared → Prop) (f : Flow) (s₂ : Shared) : Prop :=
  match f with
  | .ret v => Q (.ret v) s₂
  | .brk => Q .next s₂
  | _ => TurnEnd h₀ L J I it s₁ s₂
/-- a loop over range(n), whatever its target, by an invariant -/
theorem for_any {target : Expr} {body : List Stmt} {r : Addr} {t u v : Tok} {n : Nat} (J : Nat → (Str → Option Value) → List (Addr × Obj) → Prop)
    (hh : A.handled = none) (hr : IsRange s.heap r 0 (n : Int) 1 t u v) (hs : Builtin.Range.small 0 (n : Int) 1 = true) (hn : Builtin.Range.rangeSize 0 (n : Int) 1 = (n : Int)) (F : Fr h₀ L s.heap m₀) (N : News h₀ L s.heap news₀) (hj : J 0 m₀ news₀)
    (turn : ∀ (i : Nat) (I : Addr) (t : Tok) (m₁ : Str → Option Value) (news₁ : List (Addr × Obj)) (h : Heap) (tk : Nat), i < n → J i m₁ news₁ → (∀ p ∈ news₁, p.1 ≠ I) → Fr h₀ L h m₁ → News h₀ L h ((I, itR ((i + 1 : Nat) : Int) ((n : Int) - ((i + 1 : Nat) : Int))) :: news₁) →
      wpAny (model prog w) A (assign target env (.int (i : Int) t)) (fun _ s₂ => wpAny (model prog w) A (execs body env) (TurnPost h₀ L (J (i + 1)) I (itR ((i + 1 : Nat) : Int) ((n : Int) - ((i + 1 : Nat) : Int))) { s with heap := h, toks := tk } Q) E s₂) E { s with heap := h, toks := tk })
    (done : ∀ m₁ news₁ h tk, J n m₁ news₁ → Fr h₀ L h m₁ → News h₀ L h news₁ → Q .next { s with heap := h, toks := tk })
    (hE : PassesOwn (model prog w) A env E) (ht : ∀ v, letOwnedTupleGo target (.ref s.heap.objs.size) v = pure ()) :
    wpAny (model prog w) A (pyIter (.ref r)) (fun it s₂ => codeAny (model prog w) A (.forLoop target it body [] env) (fun r s' => match r with | .ok f => Q f s' | .error e => cameBackBy (model prog w) A env E e s') s₂) E s := by
  refine wpAny_pyIter_range hr hs ?_
  have hnew := next_is_new F
  have hL : L ≠ s.heap.objs.size := Nat.ne_of_lt F.ns.lt
  generalize hI : s.heap.objs.size = I at *
  have W := (Walks.range (prog := prog) (w := w) (A := A) hh I 0 1 n).bound
  refine codeAny_forLoop (fun k s' => ∃ h' tk m' news' i, s' = { s with heap := h', toks := tk } ∧ IsRangeIter h' I (0 + (i : Nat) * 1) ((n : Int) - (i : Nat)) 1 ∧ Fr h₀ L h' m' ∧ News h₀ L h' news' ∧ (∀ p ∈ news', p.1 ≠ I) ∧ J i m' news' ∧ i ≤ n ∧ k = n + 1 - i) ?_ (n + 1)
    ⟨_, s.toks, m₀, news₀, 0, rfl, ?_, F.push _, fun p hp => ⟨Heap.get?_push_of_some _ (N p hp).1, (N p hp).2⟩, fun p hp => ?_, hj, Nat.zero_le _, rfl⟩ ht
  · rintro k s' ⟨h', tk, m', news', i, rfl, hst, F', N', off, hJ, hi, rfl⟩
    have next : ∀ h₁ : Heap, (∀ b o, b ∉ [I] → h'.get? b = some o → h₁.get? b = some o) → Fr h₀ L h₁ m' ∧ News h₀ L h₁ news' := fun h₁ hk =>
      ⟨LCg.fr_but F' hk hL hnew, LCg.news_but N' hk off⟩
    by_cases hlt : i < n
    · refine W.item i _ _ _ hlt hst fun v h₁ tk₁ hP hst₁ hk₁ => ?_
      obtain ⟨_, t', rfl⟩ := hP
      obtain ⟨F₁, N₁⟩ := next h₁ hk₁
      have e1 : (0 : Int) + (i : Int) * 1 = (i : Int) := by omega
      have e2 : (0 : Int) + ((i + 1 : Nat) : Int) * 1 = ((i + 1 : Nat) : Int) := by omega
      rw [e1]
      have hst₂ : h₁.get? I = some (itR ((i + 1 : Nat) : Int) ((n : Int) - ((i + 1 : Nat) : Int))) := by
        have q : IsRangeIter h₁ I (0 + ((i + 1 : Nat) : Int) * 1) ((n : Int) - ((i + 1 : Nat) : Int)) 1 := hst₁
        rw [e2] at q
        exact q
      have N₂ : News h₀ L h₁ ((I, itR ((i + 1 : Nat) : Int) ((n : Int) - ((i + 1 : Nat) : Int))) :: news') := fun p hp => by
        rcases List.mem_cons.mp hp with rfl | hp
        · exact ⟨hst₂, Ne.symm hL, hnew⟩
        · exact N₁ p hp
      refine wpAny_passesOwn hE (wpAny_mono (turn i I t' m' news' h₁ tk₁ hlt hJ off F₁ N₂) (fun _ s₂ h₂ => wpAny_passesOwn hE (wpAny_mono h₂ (fun f s₃ h₃ => ?_) fun _ _ e => e)) fun _ _ e => e)
      have fin : TurnEnd h₀ L (J (i + 1)) I (itR ((i + 1 : Nat) : Int) ((n : Int) - ((i + 1 : Nat) : Int))) { s with heap := h₁, toks := tk₁ } s₃ → ∃ m, m < n + 1 - i ∧ ∃ h' tk m' news' j, s₃ = { s with heap := h', toks := tk } ∧ IsRangeIter h' I (0 + (j : Nat) * 1) ((n : Int) - (j : Nat)) 1 ∧ Fr h₀ L h' m' ∧ News h₀ L h' news' ∧ (∀ p ∈ news', p.1 ≠ I) ∧ J j m' news' ∧ j ≤ n ∧ m = n + 1 - j := by
        rintro ⟨h₃', tk₃, m₃, news₃, rfl, F₃, N₃, off₃, hJ₃⟩
        refine ⟨n + 1 - (i + 1), by omega, h₃', tk₃, m₃, news₃, i + 1, rfl, ?_, F₃, fun p hp => N₃ p (.tail _ hp), off₃, hJ₃, hlt, rfl⟩
        rw [e2]
        exact (N₃ _ (.head _)).1
      cases f with
      | ret v => exact h₃
      | brk => exact h₃
      | next => exact fin h₃
      | cont => exact fin h₃
    · have hin : i = n := by omega
      subst hin
      refine W.done _ _ _ hst fun h₁ tk₁ hk₁ => wpAny_execs_nil ?_
      obtain ⟨F₁, N₁⟩ := next h₁ hk₁
      exact done m' news' h₁ tk₁ hJ F₁ N₁
  · show IsRangeIter _ _ _ _ _
    rw [hn, ← hI]
    simpa using Heap.get?_push_size _ rfl
  · rw [← hI]
    exact Nat.ne_of_lt (Heap.lt_size (N p hp).1)
end
end Forr
section TupEq
open PySem.SeqAt
/-- the refs of a list, each a tuple of ints of the ledger -/
def TupsIn (news : List (Addr × Obj)) (vs : List Value) (R : List (List Int)) : Prop := vs.length = R.length ∧ ∀ (i : Nat) (h : i < R.length), ∃ τ oτ, vs[i]? = some (.ref τ) ∧ (τ, oτ) ∈ news ∧ TupO oτ R[i]
theorem ints_same {vs : List Value} {a b : List Int} (h : IntsAre vs a) : IntsAre vs b → a = b := by
  induction h generalizing b with
  | nil => intro k; cases k; rfl
  | cons n t _ ih => intro k; cases k with
    | cons _ _ r => rw [ih r]
theorem tupO_same {o : Obj} {a b : List Int} (h : TupO o a) (k : TupO o b) : a = b := by
  obtain ⟨vs, n, h1, _, e⟩ := h
  obtain ⟨ws, m, k1, _, e'⟩ := k
  rw [e] at e'
  have q : vs.toArray = ws.toArray := by
    have := congrArg Obj.data e'
    simp only [Data.seq.injEq] at this
    exact this.1
  have q' : vs = ws := by simpa using q
  subst q'
  exact ints_same h1 k1
theorem all_eq {a b : List Int} : ((List.range (min a.length b.length)).all (fun j => a[j]? == b[j]?) && a.length == b.length) = decide (a = b) := by
  rw [Bool.eq_iff_iff, Bool.and_eq_true, List.all_eq_true, beq_iff_eq, decide_eq_true_eq]
  constructor
  · rintro ⟨h, hl⟩
    refine List.ext_getElem? fun i => ?_
    by_cases hi : i < a.length
    · have := h i (List.mem_range.mpr (by omega))
      exact eq_of_beq this
    · rw [List.getElem?_eq_none (by omega), List.getElem?_eq_none (by omega)]
  · rintro rfl
    exact ⟨fun j _ => beq_self_eq_true _, rfl⟩
section
variable {prog : Program} {w : World} {A : Around} {E : Value → Shared → Prop} {s : Shared}
theorem tup_eqAt {τ σ : Addr} {oτ oσ : Obj} {a b : List Int} (hτ : s.heap.get? τ = some oτ) (hσ : s.heap.get? σ = some oσ) (h : TupO oτ a) (k : TupO oσ b) (hu : A.units < cLine) : EqAt A s (.ref τ) (.ref σ) (decide (a = b)) := by
  by_cases e : τ = σ
  · subst e
    rw [hτ] at hσ
    have q := tupO_same h ((Option.some.inj hσ).symm ▸ k)
    rw [decide_eq_true q]
    exact EqAt.same _
  · obtain ⟨vs, n, h1, _, rfl⟩ := h
    obtain ⟨ws, m, k1, _, rfl⟩ := k
    refine EqAt.of_refs e ?_
    have r := RcAt.tuples (A := A) (s := s) (e := fun j => a[j]? == b[j]?) ⟨_, hτ, rfl, n, rfl⟩ ⟨_, hσ, rfl, m, rfl⟩ hu (fun j h1' h2' => ?_)
    · rw [List.size_toArray, List.size_toArray, h1.length, k1.length, all_eq] at r
      exact r
    · obtain ⟨p, t, hp, e1⟩ := IntsAre.at h1 j _ (List.getElem?_eq_getElem (by simpa using h1'))
      obtain ⟨q, u, hq, e2⟩ := IntsAre.at k1 j _ (List.getElem?_eq_getElem (by simpa using h2'))
      simp only [List.getElem_toArray]
      rw [e1, e2, hp, hq]
      exact EqAt.int_int p t q u
open Classical in
theorem rows_eqAt {h₀ : Heap} {L τ : Addr} {all news : List (Addr × Obj)} {vs : List Value} {R : List (List Int)} {oτ : Obj} {x : List Int} (N : News h₀ L s.heap all) (hT : TupsIn news vs R) (sub : ∀ p ∈ news, p ∈ all) (ht : (τ, oτ) ∈ all) (hx : TupO oτ x) :
    ∃ e : Value → Bool, (∀ A : Around, A.units < cLine → ∀ y ∈ vs, EqAt A s y (.ref τ) (e y)) ∧ ∀ i (hi : i < R.length) (hi' : i < vs.length), e vs[i] = decide (R[i] = x) := by
  have key : ∀ i (hi : i < R.length) (hi' : i < vs.length), decide (∃ j, ∃ hj : j < R.length, vs[j]? = some vs[i] ∧ R[j] = x) = decide (R[i] = x) := by
    intro i hi hi'
    rw [decide_eq_decide]
    constructor
    · rintro ⟨j, hj, h1, h2⟩
      obtain ⟨σ, oσ, a1, a2, a3⟩ := hT.2 i hi
      obtain ⟨ρ, oρ, b1, b2, b3⟩ := hT.2 j hj
      rw [List.getElem?_eq_getElem hi'] at a1
      rw [h1, a1] at b1
      have e : σ = ρ := by
        have := Option.some.inj b1
        injection this
      subst e
      have g1 := (N _ (sub _ a2)).1
      have g2 := (N _ (sub _ b2)).1
      have g3 : oσ = oρ := Option.some.inj (g1.symm.trans g2)
      subst g3
      rw [← h2]
      exact tupO_same a3 b3
    · intro h
      exact ⟨i, hi, List.getElem?_eq_getElem hi', h⟩
  refine ⟨fun y => decide (∃ j, ∃ hj : j < R.length, vs[j]? = some y ∧ R[j] = x), fun A hu y hy => ?_, key⟩
  obtain ⟨i, hi', rfl⟩ := List.getElem_of_mem hy
  have hi : i < R.length := by rw [← hT.1]; exact hi'
  show EqAt A s vs[i] (.ref τ) (decide _)
  rw [key i hi hi']
  obtain ⟨σ, oσ, a1, a2, a3⟩ := hT.2 i hi
  rw [List.getElem?_eq_getElem hi'] at a1
  rw [Option.some.inj a1]
  exact tup_eqAt (N _ (sub _ a2)).1 (N _ ht).1 a3 hx hu
theorem notin_rows {h₀ : Heap} {L τ l : Addr} {n k : Nat} {all news : List (Addr × Obj)} {vs : List Value} {R : List (List Int)} {oτ : Obj} {x : List Int} {Q : Value → Shared → Prop} (N : News h₀ L s.heap all) (hT : TupsIn news vs R) (sub : ∀ p ∈ news, p ∈ all) (ht : (τ, oτ) ∈ all) (hx : TupO oτ x)
    (hl : (l, listOf (vs.take k).toArray n) ∈ all) (hu : A.in1.units < cLine) (h : Q (.bool (decide (x ∉ R.take k))) s) : wpAny (model prog w) A (compareOp .NotIn (.ref τ) (.ref l)) Q E s := by
  obtain ⟨e, h1, h2⟩ := rows_eqAt N hT sub ht hx
  refine notIn_listAt e (News.isList N hl) (fun y hy => h1 A.in1 hu y ?_) ?_
  · exact List.mem_of_mem_take (by simpa using hy)
  · have q : (vs.take k).toArray.any e = decide (x ∈ R.take k) := by
      rw [List.any_toArray, Bool.eq_iff_iff, List.any_eq_true, decide_eq_true_eq]
      constructor
      · rintro ⟨y, hy, he⟩
        obtain ⟨i, hi, rfl⟩ := List.getElem_of_mem hy
        rw [List.length_take] at hi
        have hR : i < R.length := by rw [← hT.1]; omega
        rw [List.getElem_take, h2 i hR (by omega), decide_eq_true_eq] at he
        rw [← he]
        exact List.mem_of_getElem? (i := i) (by rw [List.getElem?_take_of_lt (by omega), List.getElem?_eq_getElem hR])
      · intro hm
        obtain ⟨i, hi, e'⟩ := List.getElem_of_mem hm
        rw [List.length_take] at hi
        have hV : i < vs.length := by rw [hT.1]; omega
        refine ⟨vs[i], List.mem_of_getElem? (i := i) (by rw [List.getElem?_take_of_lt (by omega), List.getElem?_eq_getElem hV]), ?_⟩
        rw [h2 i (by omega) hV, decide_eq_true_eq, ← e', List.getElem_take]
    rw [q]
    simpa using h
theorem index_rows {h₀ : Heap} {L τ l : Addr} {n : Nat} {all news : List (Addr × Obj)} {vs : List Value} {R : List (List Int)} {oτ : Obj} {x : List Int} {Q : Value → Shared → Prop} (N : News h₀ L s.heap all) (hT : TupsIn news vs R) (sub : ∀ p ∈ news, p ∈ all) (ht : (τ, oτ) ∈ all) (hx : TupO oτ x)
    (hl : (l, listOf vs.toArray n) ∈ all) (hm : x ∈ R) (h4 : R.length ≤ 4) (hu : A.in1.units < cLine) (h : Q (.int (R.idxOf x : Nat) s.toks) { s with toks := s.toks + 1 }) : wpAny (model prog w) A (call (.builtin "list.index") [.ref l, .ref τ]) Q E s := by
  obtain ⟨e, h1, h2⟩ := rows_eqAt N hT sub ht hx
  have hj : R.idxOf x < R.length := List.idxOf_lt_length_iff.mpr hm
  have hv : vs.length = R.length := hT.1
  refine call_meets PySem.F.slot_list_index ⟨_, (N _ hl).1, rfl⟩ PySem.F.entry_list_index (PySem.F.args_list_index_2 _ _)
    (list_indexAt l vs.toArray n none #[] (.ref τ) e (R.idxOf x) (by rw [List.size_toArray]; omega) (by omega) ?_ ?_) ⟨(N _ hl).1, fun y hy => h1 _ ?_ y (by simpa using hy), h⟩
  · simp only [List.getElem_toArray]
    rw [h2 _ hj (by omega), decide_eq_true_eq]
    exact List.getElem_idxOf hj
  · intro i hi hlt
    simp only [List.getElem_toArray]
    rw [h2 _ (by omega) (by rw [List.size_toArray] at hi; omega), decide_eq_false_iff_not]
    intro q
    have z := List.not_of_lt_findIdx (p := (· == x)) (xs := R) (i := i) hlt
    simp only [q, beq_self_eq_true] at z
    exact absurd z (by decide)
  · exact hu
theorem item_row {h₀ : Heap} {L rl : Addr} {n : Nat} {all news : List (Addr × Obj)} {vs : List Value} {R : List (List Int)} {k : Int} {t : Tok} {Q : Value → Shared → Prop} (N : News h₀ L s.heap all) (hT : TupsIn news vs R) (hl : (rl, listOf vs.toArray n) ∈ all)
    (h0 : 0 ≤ k) (h1 : k < (R.length : Int)) (h4 : R.length ≤ 4) (h : ∀ τ oτ, (τ, oτ) ∈ news → TupO oτ (R.getD k.toNat []) → Q (.ref τ) s) : wpAny (model prog w) A (getItem (.ref rl) (.int k t)) Q E s := by
  have hk : k.toNat < R.length := by omega
  obtain ⟨τ, oτ, a1, a2, a3⟩ := hT.2 _ hk
  refine getItem_listL (News.isList N hl) h0 (by omega) a1 (h τ oτ a2 ?_)
  rw [List.getD_eq_getElem?_getD, List.getElem?_eq_getElem hk]
  exact a3
theorem tail_row {value slice : Expr} {h₀ : Heap} {L rl : Addr} {n : Nat} {all news : List (Addr × Obj)} {vs : List Value} {R : List (List Int)} {k : Int} {t : Tok} {Q : Value → Shared → Prop} (N : News h₀ L s.heap all) (hT : TupsIn news vs R) (hl : (rl, listOf vs.toArray n) ∈ all)
    (h0 : 0 ≤ k) (h1 : k < (R.length : Int)) (h4 : R.length ≤ 4) (h : ∀ τ oτ, (τ, oτ) ∈ news → TupO oτ (R.getD k.toNat []) → Q (.ref τ) s)
    (hs : subscripted slice false (.ref rl) (.int k t) = operate [.ref rl, .int k t] (getItem (.ref rl) (.int k t)) := by with_unfolding_all rfl) : wpAny (model prog w) A (subscriptTail value slice (.ref rl) (.int k t)) Q E s :=
  tail_any (News.isList N hl).typeIs PySem.F.slot_list_getitem.lookup (item_row N hT hl h0 h1 h4 h) hs
theorem slice_rows {value slice : Expr} {h₀ : Heap} {L l : Addr} {m : Str → Option Value} {n : Nat} {news : List (Addr × Obj)} {vs : List Value} {y : Int} {t : Tok} {Q : Value → Shared → Prop} (F : Fr h₀ L s.heap m) (N : News h₀ L s.heap news) (hl : (l, listOf vs.toArray n) ∈ news) (h0 : 0 ≤ y)
    (hz : vs.length ≤ 65536) (h : ∀ D h', Fr h₀ L h' m → News h₀ L h' ((D, listOf (vs.take y.toNat).toArray 0) :: news) → (∀ p ∈ news, p.1 < D) → Q (.ref D) { s with heap := h' })
    (hs : subscripted slice false (.ref l) (.ref s.heap.objs.size) = operate [.ref s.heap.objs.size, .ref l] (getItem (.ref l) (.ref s.heap.objs.size))) (ht : ∀ r, letTemporaryGo value (.ref l) r = pure ()) :
    wpAny (model prog w) A (subscriptTail value slice (.ref l) (.ref s.heap.objs.size)) Q E { s with heap := s.heap.push { cls := .type "slice", data := .fields #[.none, .int y t, .none] } } := by
  refine kmk_slice_lit (zs := vs.take y.toNat) F N (News.isList N hl) .none (.int _ _) ?_ h hs ht (by rw [List.size_toArray, sizeLine_eq]; omega)
  have e : sliceBounds none (some y) none vs.toArray.size = (((0 : Nat) : Int), ((min y.toNat vs.toArray.size : Nat) : Int), 1) := by
    simp only [sliceBounds, Option.getD_none, show (1 : Int) > 0 by decide, if_true, if_neg (show ¬ (y < 0) by omega)]
    congr 1
    congr 1
    omega
  rw [kmk_pick_nat _ e]
  show (vs.drop 0).take (min y.toNat vs.toArray.size - 0) = _
  rw [List.drop_zero, Nat.sub_zero, List.size_toArray, kmk_take_min]
end
end TupEq
section DictP
theorem list_no_keys : typeLookup (.type "list") (Str.ofString "keys") = pure none := am_miss_of_fast (by kernel_rfl)
theorem keys_miss {prog : Program} {w : World} {A : Around} {E : Value → Shared → Prop} {s : Shared} {a : Addr} {xs : Array Value} {k : Nat} {Q : Option Value → Shared → Prop}
    (hx : s.heap.get? a = some (listOf xs k)) (hA : A.handled = none) (h : ∀ h' tk e, Heap.NewAttrErr s.heap h' e (.ref a) (Str.ofString "keys") → Q none { s with heap := h', toks := tk }) :
    wpAny (model prog w) A (getAttr? (.ref a) "keys") Q E s := by
  obtain ⟨hp, g, d, tk, os⟩ := s
  have hT : ∀ tk', (⟨hp, g, d, tk', os⟩ : Shared).TypeIs (.ref a) "list" := fun _ => ⟨_, hx, rfl⟩
  have f1 := sub_AttributeError
  have f3 := F.slot_list_getattribute.lookup
  have f4 := F.slot_list_getattribute.bind (.ref a)
  have f5 := am_list_getattr_none
  unfold getAttr? getAttrBy? getAttrBy
  repeat (any_goals (first | assumption | exact hT _ | ((with_reducible show wpAny _ _ (call (Value.builtin "list.__getattribute__") _ _) _ _ _); refine call_meets F.slot_list_getattribute (hT _) am_entry_list_getattribute (F.args_list_getattribute_2 _ _) (meets_getattribute_miss_list a xs k #[] (Str.ofString "keys") _ list_no_keys (by decide +kernel) (by size_fits)) ⟨hx, hA, fun h' tk' e hx' => ?_⟩) | wp_step))
  obtain ⟨t', u', he⟩ := hx'.there
  show wpAny _ _ (getattributeRaised _ _ _ _ _ _ _) _ _ _
  unfold getattributeRaised hookBehind hookOrError attributeErrorLeaves
  repeat (any_goals (first | assumption | wp_step))
  exact h _ _ _ hx'
section
variable {prog : Program} {w : World} {K : Type} [DecidableEq K] {knd : KeyKind prog w K}
def putAll (kk : Nat → K) (va : Nat → Value) : Nat → Nat → List (K × Value) → List (K × Value)
  | 0, _, kvs => kvs
  | k + 1, i, kvs => putAll kk va k (i + 1) (stored kvs (kk i) (va i))
theorem stored_le (kvs : List (K × Value)) (k : K) (v : Value) : (stored kvs k v).length ≤ kvs.length + 1 := by
  unfold stored; split <;> simp
/-- the pairs of a list, each a 2-tuple of the heap -/
def PairsAt (h : Heap) (d I : Addr) (knd : KeyKind prog w K) (items : Array Value) (pr : Nat → Addr) (ky va : Nat → Value) (kk : Nat → K) : Prop :=
  ∀ j, j < items.size → items[j]? = some (.ref (pr j)) ∧ (∃ m, h.get? (pr j) = some (tupOf #[ky j, va j] m)) ∧ knd.is (kk j) (ky j) = true ∧ pr j ≠ d ∧ pr j ≠ I
theorem plain_upd : plainId "dict.update.loop" = true := by decide +kernel
theorem entry_upd : entryFor table "dict.update.loop" = some Builtin.«dict.update.loop» := entryFor_of_fast (by kernel_rfl)
theorem upd_loop (d I l : Addr) (items : Array Value) (pr : Nat → Addr) (ky va : Nat → Value) (kk : Nat → K) (hdI : d ≠ I) (hdl : l ≠ d) (hIl : l ≠ I) (k : Nat) :
    ∀ (i : Nat) (A : Around) (R : Result → Shared → Prop) (s : Shared) (kvs : List (K × Value)), items.size - i = k → A.handled = none → s.heap.IsListIter I l i → s.heap.IsList l items → s.heap.DictOf knd d kvs → PairsAt s.heap d I knd items pr ky va kk → kvs.length + k ≤ sizeLine →
      (∀ h' tk, h'.DictOf knd d (putAll kk va k i kvs) → (∀ b o, b ≠ d → b ≠ I → s.heap.get? b = some o → h'.get? b = some o) → R (.ok (.ret .none)) { s with heap := h', toks := tk }) →
      wpAny (model prog w) A.in1 (Builtin.«dict.update.loop» ⟨[.ref d, .ref I, rawInt i, .none], []⟩) (fun fin s' => match fin with | .done f => R (.ok f) s' | .again c' => c'.quiet = true ∧ codeAny (model prog w) A c' R s') (fun e s' => R (.error e) s') s := by
  induction k with
  | zero =>
    intro i A R s kvs hk hA hit hl hd hp hz h
    unfold Builtin.«dict.update.loop»
    refine wpAny_bind (wpAny_pyNext_list_end (show A.in1.handled = none from hA) hit hl (by simp; omega) fun h' hs => ?_)
    show wpAny _ _ (Builtin.Dict.addKeywords d [] >>= _) _ _ _
    refine wpAny_bind (wpAny_pure (wpAny_pure ?_))
    refine h h' s.toks ?_ fun b o hb hI e => hs b o hI e
    exact hd.extBut hs hdI
  | succ k ih =>
    intro i A R s kvs hk hA hit hl hd hp hz h
    obtain ⟨hi1, ⟨mm, hi2⟩, hi3, hi4, hi5⟩ := hp i (by omega)
    unfold Builtin.«dict.update.loop»
    refine wpAny_bind (wpAny_pyNext_list_item hit hl hi1 fun h₁ hit₁ hs₁ => ?_)
    have hl₁ : h₁.IsList l items := hl.extBut hs₁.extBut hIl
    have hd₁ : h₁.DictOf knd d kvs := hd.extBut hs₁.extBut hdI
    have g₁ : h₁.get? (pr i) = some (tupOf #[ky i, va i] mm) := hs₁.extBut _ _ hi5 hi2
    refine wpAny_bind (wpAny_holding (wpAny_bind (wpAny_tryCatch ?_)))
    have hT : ({ s with heap := h₁ } : Shared).TypeIs (.ref (pr i)) "tuple" := ⟨_, g₁, rfl⟩
    have pairs : ∀ (E' : Value → Shared → Prop) (Q' : List Value → Shared → Prop), Q' [ky i, va i] { s with heap := h₁ } → wpAny (model prog w) A.in1 (Builtin.Dict.pairItems (.ref (pr i))) Q' E' { s with heap := h₁ } := by
      intro E' Q' hq
      unfold Builtin.Dict.pairItems
      refine wpAny_bind (wpAny_typeOf hT ?_)
      simp only [show (Value.type "tuple" == Value.type "list") = false from rfl, show (Value.type "tuple" == Value.type "tuple") = true from rfl, Bool.false_or, if_true]
      exact wpAny_bind (wpAny_seqItems g₁ rfl (wpAny_pure hq))
    refine pairs _ _ ?_
    refine wpAny_holding (wpAny_dictSet_pairs hi3 hd₁ (fun h₂ hd₂ hs₂ => ?_) (by omega))
    have hc : ((i : Int) + 1) = ((i + 1 : Nat) : Int) := by push_cast; rfl
    rw [hc]
    refine wpAny_pure ⟨plainId_quiet plain_upd _, codeAny_builtin entry_upd ?_⟩
    rw [Around.under_plainId plain_upd _]
    refine ih (i + 1) A R _ (stored kvs (kk i) (va i)) (by omega) hA (hit₁.at fun o e => hs₂.extBut _ _ (Ne.symm hdI) e) (hl₁.extBut hs₂.extBut hdl) hd₂ (fun j hj => ?_) ?_ ?_
    · obtain ⟨a1, ⟨m', a2⟩, a3, a4, a5⟩ := hp j hj
      exact ⟨a1, ⟨m', hs₂.extBut _ _ a4 (hs₁.extBut _ _ a5 a2)⟩, a3, a4, a5⟩
    · have := stored_le kvs (kk i) (va i)
      omega
    · intro h' tk hd' keep
      exact h h' tk hd' fun b o hb hI e => keep b o hb hI (hs₂.extBut _ _ hb (hs₁.extBut _ _ hI e))
variable {A : Around} {E : Value → Shared → Prop} {s : Shared}
/-- dict(a list of pairs) -/
theorem call_dict_pairs {l : Addr} {items : Array Value} {n : Nat} {pr : Nat → Addr} {ky va : Nat → Value} {kk : Nat → K} {Q : Value → Shared → Prop} (hA : A.handled = none) (hl : s.heap.get? l = some (listOf items n))
    (hp : ∀ j, j < items.size → items[j]? = some (.ref (pr j)) ∧ (∃ m, s.heap.get? (pr j) = some (tupOf #[ky j, va j] m)) ∧ knd.is (kk j) (ky j) = true) (hz : items.size ≤ sizeLine)
    (h : ∀ h' tk, h'.DictOf knd s.heap.objs.size (putAll kk va items.size 0 []) → (∀ b o, s.heap.get? b = some o → h'.get? b = some o) → Q (.ref s.heap.objs.size) { s with heap := h', toks := tk }) :
    wpAny (model prog w) A (call (.type "dict") [.ref l]) Q E s := by
  refine callType_codes (Q₁ := fun obj s₁ => obj = .ref s.heap.objs.size ∧ s₁ = { s with heap := s.heap.push { cls := .type "dict", data := .dict #[] } }) F.kt_called_dict (F.kt_typeCall_dict_1 _) F.entry_dict_init (kt_code_dict_new _ ⟨rfl, rfl⟩) ?_
  rintro obj s₁ ⟨rfl, rfl⟩
  have hnew : (s.heap.push { cls := .type "dict", data := .dict #[] }).DictOf knd s.heap.objs.size [] := Heap.DictOf.new s.heap
  have old : ∀ b o, s.heap.get? b = some o → (s.heap.push { cls := .type "dict", data := .dict #[] }).get? b = some o := fun b o e => Heap.get?_push_of_some _ e
  have hL : (s.heap.push { cls := .type "dict", data := .dict #[] }).IsList l items := ⟨_, old _ _ hl, rfl, n, rfl⟩
  refine ⟨hnew.typeIs, F.args_dict_init_2 _ _, ?_⟩
  unfold Builtin.«dict.__init__»
  refine wpAny_bind ?_
  unfold Builtin.Dict.selfAndRest
  refine wpAny_bind (wpAny_notOrdered_dict hnew.typeIs ?_)
  show wpAny _ _ (pure (s.heap.objs.size, [Value.ref l])) _ _ _
  refine wpAny_pure ?_
  show wpAny _ _ (Builtin.Dict.updateFrom "dict.__init__" s.heap.objs.size (.ref l) [] .none) _ _ _
  unfold Builtin.Dict.updateFrom
  refine wpAny_bind (wpAny_typeOf hL.typeIs ?_)
  rw [if_pos (by decide)]
  refine wpAny_bind (keys_miss (old _ _ hl) hA fun h₁ tk₁ e hx => ?_)
  simp only [Option.isNone_none, if_true]
  have keep₁ : ∀ b o, s.heap.get? b = some o → h₁.get? b = some o := fun b o e => hx.keeps _ _ (old _ _ e)
  have hL₁ : h₁.IsList l items := ⟨_, keep₁ _ _ hl, rfl, n, rfl⟩
  refine wpAny_bind (wpAny_rule (wpAny_bind (wpAny_pyIter_list hL₁ ?_)))
  refine wpAny_pure ⟨plainId_quiet plain_upd _, codeAny_builtin entry_upd ?_⟩
  rw [Around.under_plainId plain_upd _]
  have hd₁ : h₁.DictOf knd s.heap.objs.size [] := let ⟨o, es, ep, ho, r⟩ := hnew; ⟨o, es, ep, hx.keeps _ _ ho, r⟩
  have ltd : s.heap.objs.size < h₁.objs.size := by obtain ⟨_, _, _, hg, _⟩ := hd₁; exact Heap.lt_size hg
  have ltl : l < s.heap.objs.size := Heap.lt_size hl
  refine upd_loop (knd := knd) (pr := pr) (ky := ky) (va := va) (kk := kk) s.heap.objs.size h₁.objs.size l items (Nat.ne_of_lt ltd) (Nat.ne_of_lt ltl) (Nat.ne_of_lt (Nat.lt_trans ltl ltd)) items.size 0 A.in1 _ _ [] rfl hA ⟨_, Heap.get?_push_size _ rfl, rfl, rfl⟩ (hL₁.at fun o e => Heap.get?_push_of_some _ e) (hd₁.push _) (fun j hj => ?_) (by simpa using hz) ?_
  · obtain ⟨a1, ⟨m, a2⟩, a3⟩ := hp j hj
    have lt := Heap.lt_size a2
    exact ⟨a1, ⟨m, Heap.get?_push_of_some _ (keep₁ _ _ a2)⟩, a3, Nat.ne_of_lt lt, Nat.ne_of_lt (Nat.lt_trans lt ltd)⟩
  · intro h' tk hd' keep
    refine ⟨rfl, h h' tk hd' fun b o e => ?_⟩
    have lt := Heap.lt_size e
    exact keep b o (Nat.ne_of_lt lt) (Nat.ne_of_lt (Nat.lt_trans lt ltd)) (Heap.get?_push_of_some _ (keep₁ _ _ e))
end
end DictP
section Rws
def TablesD (od : Obj) (dz dc dk : Addr) : Prop := ∃ (H1 H2 H3 : Int) (t1 t2 t3 : Tok) (n : Nat), od = dictOf [⟨H1, .str (Str.ofString "quant") t1, .ref dz⟩, ⟨H2, .str (Str.ofString "codes") t2, .ref dc⟩, ⟨H3, .str (Str.ofString "conditioning") t3, .ref dk⟩] n
theorem news_sub {h₀ h : Heap} {L : Addr} {all l : List (Addr × Obj)} (N : News h₀ L h all) (hs : ∀ p ∈ l, p ∈ all) : News h₀ L h l := fun p hp => N p (hs p hp)
def ddStep (acc : List (List Int)) (r : List Int) : List (List Int) := if r ∈ acc then acc else acc ++ [r]
/-- a list of refs, each one of the known tuples -/
def RefsOf (known : List (Addr × List Int)) (vs : List Value) (acc : List (List Int)) : Prop := ∃ l : List (Addr × List Int), vs = l.map (fun p => Value.ref p.1) ∧ acc = l.map (·.2) ∧ ∀ p ∈ l, p ∈ known
theorem RefsOf.nil : RefsOf [] [] [] := ⟨[], rfl, rfl, fun _ h => nomatch h⟩
theorem RefsOf.len {known : List (Addr × List Int)} {vs : List Value} {acc : List (List Int)} (h : RefsOf known vs acc) : acc.length = vs.length := by
  obtain ⟨l, rfl, rfl, _⟩ := h; simp
theorem RefsOf.more {known : List (Addr × List Int)} {vs : List Value} {acc : List (List Int)} (p : Addr × List Int) (h : RefsOf known vs acc) : RefsOf (p :: known) vs acc := by
  obtain ⟨l, a, b, c⟩ := h; exact ⟨l, a, b, fun q hq => .tail _ (c q hq)⟩
theorem RefsOf.snoc {known : List (Addr × List Int)} {vs : List Value} {acc : List (List Int)} (τ : Addr) (r : List Int) (h : RefsOf known vs acc) : RefsOf ((τ, r) :: known) (vs ++ [.ref τ]) (acc ++ [r]) := by
  obtain ⟨l, rfl, rfl, c⟩ := h
  refine ⟨l ++ [(τ, r)], by simp, by simp, fun q hq => ?_⟩
  rcases List.mem_append.mp hq with hq | hq
  · exact .tail _ (c q hq)
  · rw [List.mem_singleton.mp hq]; exact .head _
theorem RefsOf.tupsIn {known : List (Addr × List Int)} {vs : List Value} {acc : List (List Int)} {news : List (Addr × Obj)} (h : RefsOf known vs acc) (hk : ∀ p ∈ known, ∃ o, (p.1, o) ∈ news ∧ TupO o p.2) : TupsIn news vs acc := by
  obtain ⟨l, rfl, rfl, c⟩ := h
  refine ⟨by simp, fun i hi => ?_⟩
  have hi' : i < l.length := by simpa using hi
  obtain ⟨o, h1, h2⟩ := hk _ (c _ (List.getElem_mem hi'))
  refine ⟨l[i].1, o, by simp [hi'], h1, ?_⟩
  simpa using h2
theorem st_le {K : Type} [DecidableEq K] {kvs : List (K × Value)} {k : K} {v : Value} {n : Nat} (h : kvs.length ≤ n) : (stored kvs k v).length ≤ n + 1 := Nat.le_trans (stored_le kvs k v) (Nat.succ_le_succ h)
section
variable {prog : Program} {w : World} {A : Around} {E : Value → Shared → Prop} {s : Shared} {h₀ : Heap} {L : Addr} {m : Str → Option Value}
theorem notin_all {τ l : Addr} {n : Nat} {all : List (Addr × Obj)} {vs : List Value} {R : List (List Int)} {oτ : Obj} {x : List Int} {Q : Value → Shared → Prop} (N : News h₀ L s.heap all) (hT : TupsIn all vs R) (ht : (τ, oτ) ∈ all) (hx : TupO oτ x)
    (hl : (l, listOf vs.toArray n) ∈ all) (hu : A.in1.units < cLine) (h : Q (.bool (decide (x ∉ R))) s) : wpAny (model prog w) A (compareOp .NotIn (.ref τ) (.ref l)) Q E s := by
  refine notin_rows (k := vs.length) N hT (fun _ h => h) ht hx (by rw [List.take_length]; exact hl) hu ?_
  rw [hT.1, List.take_length]
  exact h
structure RowsMark (rl : Addr) : Prop where
  ok : True
def RowsK (h₀ : Heap) (L : Addr) (m : Str → Option Value) (g : Obj → List (Addr × Obj)) (known : List (Addr × List Int)) (acc : List (List Int)) (b : Nat) (s : Shared) (f : Flow) (s₂ : Shared) : Prop :=
  f = .next ∧ ∃ vs' n' h' tk', s₂ = { s with heap := h', toks := tk' } ∧ RefsOf known vs' acc ∧ vs'.length ≤ b ∧ Fr h₀ L h' m ∧ News h₀ L h' (g (listOf vs'.toArray n'))
theorem rows_join {env : Env} {st : Stmt} {rl τ : Addr} {n b : Nat} {vs : List Value} {known : List (Addr × List Int)} {acc : List (List Int)} {r : List Int} {oτ : Obj} {news : List (Addr × Obj)} {g : Obj → List (Addr × Obj)} {Q : Flow → Shared → Prop}
    (_e1 : m (Str.ofString "rows") = some (.ref rl)) (_e2 : m (Str.ofString "told") = some (.ref τ)) (_F : Fr h₀ L s.heap m) (_N : News h₀ L s.heap news) (_U : UpdF rl (listOf vs.toArray n) news g) (_K : RefsOf known vs acc) (_hb : vs.length ≤ b) (_ht : (τ, oτ) ∈ news) (_hx : TupO oτ r)
    (walk : RowsMark rl → RefsOf known vs acc → vs.length ≤ b → wpAny (model prog w) A (exec st env) (RowsK h₀ L m g ((τ, r) :: known) (ddStep acc r) (b + 1) s) E s)
    (ret : ∀ vs' n' h' tk', RefsOf ((τ, r) :: known) vs' (ddStep acc r) → vs'.length ≤ b + 1 → Fr h₀ L h' m → News h₀ L h' (g (listOf vs'.toArray n')) → Q .next { s with heap := h', toks := tk' }) :
    wpAny (model prog w) A (exec st env) Q E s := by
  refine wpAny_mono (walk ⟨trivial⟩ _K _hb) (fun f s₂ h => ?_) fun _ _ e => e
  obtain ⟨rfl, vs', n', h', tk', rfl, a, b', c, d⟩ := h
  exact ret vs' n' h' tk' a b' c d
theorem rowsK_old {g : Obj → List (Addr × Obj)} {known : List (Addr × List Int)} {acc : List (List Int)} {vs : List Value} {b n τ : Nat} {r : List Int} {h' : Heap} {tk : Nat} (K : RefsOf known vs acc) (hb : vs.length ≤ b) (F : Fr h₀ L h' m) (N : News h₀ L h' (g (listOf vs.toArray n))) (hm : r ∈ acc) :
    RowsK h₀ L m g ((τ, r) :: known) (ddStep acc r) (b + 1) s .next { s with heap := h', toks := tk } := by
  refine ⟨rfl, vs, n, h', tk, rfl, ?_, Nat.le_succ_of_le hb, F, N⟩
  unfold ddStep
  rw [if_pos hm]
  exact K.more _
theorem rowsK_new {g : Obj → List (Addr × Obj)} {known : List (Addr × List Int)} {acc : List (List Int)} {vs : List Value} {b n τ : Nat} {r : List Int} {h' : Heap} {tk : Nat} (K : RefsOf known vs acc) (hb : vs.length ≤ b) (F : Fr h₀ L h' m) (N : News h₀ L h' (g (listOf (vs.toArray.push (.ref τ)) n))) (hm : r ∉ acc) :
    RowsK h₀ L m g ((τ, r) :: known) (ddStep acc r) (b + 1) s .next { s with heap := h', toks := tk } := by
  refine ⟨rfl, vs ++ [.ref τ], n, h', tk, rfl, ?_, by simpa using hb, F, by rw [List.push_toArray] at N; exact N⟩
  unfold ddStep
  rw [if_neg hm]
  exact K.snoc τ r
/-- tuple(row): the row itself, or one above all -/
def TupAt (τ l : Addr) (news : List (Addr × Obj)) : Prop := ∀ p ∈ news, p.1 ≠ l → p.1 ≠ τ
theorem tup_ne {τ l a : Addr} {o : Obj} {news : List (Addr × Obj)} (h : TupAt τ l news) (hm : (a, o) ∈ news) (hn : a ≠ l) : a ≠ τ := h _ hm hn
theorem tuple_at {l : Addr} {news : List (Addr × Obj)} {Q : Value → Shared → Prop} {o : Obj} {ns : List Int} (F : Fr h₀ L s.heap m) (N : News h₀ L s.heap news) (hm : (l, o) ∈ news) (hR : RowO o ns)
    (ret : ∀ (τ : Addr) (oτ : Obj) (h' : Heap), TupO oτ ns → Fr h₀ L h' m → News h₀ L h' ((τ, oτ) :: news) → @LE.le Nat _ l τ → TupAt τ l news → Q (.ref τ) { s with heap := h' }) :
    wpAny (model prog w) A (call (.type "tuple") [.ref l]) Q E s := by
  obtain ⟨vs, n, hi, hl, rfl | rfl⟩ := hR
  · exact tuple_lst F N hm hi hl fun τ h' F' N' h1 => ret τ _ h' ⟨vs, 0, hi, hl, rfl⟩ F' N' (Nat.le_of_lt (h1 _ hm)) fun p hp _ => Nat.ne_of_lt (h1 p hp)
  · refine call_tuple_same ⟨_, (N _ hm).1, rfl, n, rfl⟩ (ret l _ s.heap ⟨vs, n, hi, hl, rfl⟩ F (fun p hp => ?_) (Nat.le_refl _) fun p _ h => h)
    rcases List.mem_cons.mp hp with rfl | hp
    · exact N _ hm
    · exact N p hp
end
end Rws
section Pred
structure CDat where
  i : Int
  a : Int
  d : Int
  q : Int
structure FDat where
  kind : Str
  p : Int
  h : Int
  w : Int
  n : Int
inductive Zip {α : Type} (P : Value → α → Prop) : List Value → List α → Prop
  | nil : Zip P [] []
  | cons {v : Value} {a : α} {vs : List Value} {as : List α} : P v a → Zip P vs as → Zip P (v :: vs) (a :: as)
theorem Zip.imp {α : Type} {P P' : Value → α → Prop} (f : ∀ v a, P v a → P' v a) {vs : List Value} {as : List α} (h : Zip P vs as) : Zip P' vs as := by
  induction h with
  | nil => exact .nil
  | cons a _ ih => exact .cons (f _ _ a) ih
theorem Zip.len {α : Type} {P : Value → α → Prop} {vs : List Value} {as : List α} (h : Zip P vs as) : vs.length = as.length := by
  induction h with
  | nil => rfl
  | cons _ _ ih => simp [ih]
theorem Zip.at {α : Type} {P : Value → α → Prop} {vs : List Value} {as : List α} (h : Zip P vs as) : ∀ i (hi : i < as.length), ∃ v, vs[i]? = some v ∧ P v as[i] := by
  induction h with
  | nil => intro i hi; exact absurd hi (Nat.not_lt_zero _)
  | cons a _ ih =>
    intro i hi
    cases i with
    | zero => exact ⟨_, rfl, a⟩
    | succ j => exact ih j (Nat.lt_of_succ_lt_succ hi)
theorem Zip.snoc {α : Type} {P : Value → α → Prop} {vs : List Value} {as : List α} {v : Value} {a : α} (h : Zip P vs as) (k : P v a) : Zip P (vs ++ [v]) (as ++ [a]) := by
  induction h with
  | nil => exact .cons k .nil
  | cons b _ ih => exact .cons b ih
abbrev Led := List (Addr × Obj)
def CompAt (N : Led) (v : Value) (c : CDat) : Prop := ∃ x d od, v = .ref x ∧ (x, instObj 45 d) ∈ N ∧ (d, od) ∈ N ∧ CompD od c.i c.a c.d c.q
def FrameAt (N : Led) (x : Addr) (f : FDat) (cs : List CDat) : Prop := ∃ dx od lst nl vs, (x, instObj 111 dx) ∈ N ∧ (dx, od) ∈ N ∧ FrameD od f.kind f.p f.h f.w lst f.n ∧ (lst, listOf (List.toArray vs) nl) ∈ N ∧ Zip (CompAt N) vs cs
def MemAt (N : Led) (v : Value) (c : CDat) : Prop := ∃ e t1 t2 t3 t4 n, v = .ref e ∧ (e, listOf #[.int c.i t1, .int c.a t2, .int c.d t3, .int c.q t4] n) ∈ N
def RowAt (N : Led) (r : Addr) (f : FDat) (cs : List CDat) : Prop := ∃ ml t1 t2 t3 t4 t5 nr nm vs, (r, listOf #[.str f.kind t1, .int f.p t2, .int f.h t3, .int f.w t4, .int f.n t5, .ref ml] nr) ∈ N ∧ (ml, listOf (List.toArray vs) nm) ∈ N ∧ Zip (MemAt N) vs cs
def RowV (N : Led) (v : Value) (ns : List Int) : Prop := ∃ r o, v = .ref r ∧ (r, o) ∈ N ∧ RowO o ns
def numd : Nat → List Value → List (Int × Value)
  | _, [] => []
  | i, v :: r => ((i : Int), v) :: numd (i + 1) r
theorem numd_len : ∀ (i : Nat) (vs : List Value), (numd i vs).length = vs.length
  | _, [] => rfl
  | i, _ :: r => by simp [numd, numd_len (i + 1) r]
def DivAt (w : World) (N : Led) (d : Addr) (R : List (List Int)) : Prop := ∃ od rs, (d, od) ∈ N ∧ (d == sysModules) = false ∧ od.IsDictOf (PySem.intKind PySem.Challenge.rw_ok0144_01.row.prog w) (numd 0 rs) ∧ Zip (RowV N) rs R
structure Grow (rest rest' : Led) (src : Addr) : Prop where
  sub : ∀ p ∈ rest, p ∈ rest'
  off : OwnOff rest' [src]
def NC (o : Obj) : Prop := ∀ v, o.data ≠ .cell v
theorem nc_inst {c : Addr} {d : Addr} : NC (instObj c d) := fun _ h => nomatch h
theorem nc_dict {es : List DictEntry} {n : Nat} : NC (dictOf es n) := fun _ h => nomatch h
theorem nc_list {xs : Array Value} {n : Nat} : NC (listOf xs n) := fun _ h => nomatch h
theorem nc_tup {xs : Array Value} {n : Nat} : NC (tupOf xs n) := fun _ h => nomatch h
theorem RowO.nc {o : Obj} {ns : List Int} (h : RowO o ns) : NC o := by
  obtain ⟨vs, n, _, _, rfl | rfl⟩ := h
  · exact nc_list
  · exact nc_tup
theorem TupO.nc {o : Obj} {ns : List Int} (h : TupO o ns) : NC o := by
  obtain ⟨vs, n, _, _, rfl⟩ := h
  exact nc_tup
theorem CompD.nc {o : Obj} {a b c d : Int} (h : CompD o a b c d) : NC o := by
  obtain ⟨_, _, _, _, _, _, _, _, _, _, _, _, _, rfl⟩ := h
  exact nc_dict
theorem FrameD.nc {o : Obj} {k : Str} {p h w : Int} {l : Addr} {n : Int} (hF : FrameD o k p h w l n) : NC o := by
  obtain ⟨_, _, _, _, _, _, _, _, _, _, _, _, _, _, _, _, _, _, rfl⟩ := hF
  exact nc_dict
theorem TablesD.nc {o : Obj} {a b c : Addr} (h : TablesD o a b c) : NC o := by
  obtain ⟨_, _, _, _, _, _, _, rfl⟩ := h
  exact nc_dict
theorem nc_isDict {K : Type} [DecidableEq K] {prog : Program} {w : World} {knd : KeyKind prog w K} {o : Obj} {kvs : List (K × Value)} (h : o.IsDictOf knd kvs) : NC o := by
  obtain ⟨_, es, ep, h, _⟩ := h
  intro v e
  rw [h] at e
  cases e
/-- all but the cells of a ledger stands in another -/
def Up (N N' : Led) : Prop := ∀ p ∈ N, NC p.2 → p ∈ N'
theorem Up.of {N N' : Led} (s : ∀ p ∈ N, p ∈ N') : Up N N' := fun p hp _ => s p hp
theorem Up.trans {a b c : Led} (h : Up a b) (k : Up b c) : Up a c := fun p hp n => k p (h p hp n) n
theorem CompAt.up {N N' : Led} (s : Up N N') {v : Value} {c : CDat} (h : CompAt N v c) : CompAt N' v c := by
  obtain ⟨x, d, od, e, a, b, r⟩ := h; exact ⟨x, d, od, e, s _ a nc_inst, s _ b r.nc, r⟩
theorem MemAt.up {N N' : Led} (s : Up N N') {v : Value} {c : CDat} (h : MemAt N v c) : MemAt N' v c := by
  obtain ⟨x, t1, t2, t3, t4, n, e, a⟩ := h; exact ⟨x, t1, t2, t3, t4, n, e, s _ a nc_list⟩
theorem RowV.up {N N' : Led} (s : Up N N') {v : Value} {c : List Int} (h : RowV N v c) : RowV N' v c := by
  obtain ⟨x, o, e, a, b⟩ := h; exact ⟨x, o, e, s _ a b.nc, b⟩
theorem FrameAt.up {N N' : Led} (s : Up N N') {x : Addr} {f : FDat} {cs : List CDat} (h : FrameAt N x f cs) : FrameAt N' x f cs := by
  obtain ⟨dx, od, lst, nl, vs, a, b, c, d, e⟩ := h; exact ⟨dx, od, lst, nl, vs, s _ a nc_inst, s _ b c.nc, c, s _ d nc_list, e.imp fun _ _ => CompAt.up s⟩
theorem RowAt.up {N N' : Led} (s : Up N N') {x : Addr} {f : FDat} {cs : List CDat} (h : RowAt N x f cs) : RowAt N' x f cs := by
  obtain ⟨ml, t1, t2, t3, t4, t5, nr, nm, vs, a, b, c⟩ := h; exact ⟨ml, t1, t2, t3, t4, t5, nr, nm, vs, s _ a nc_list, s _ b nc_list, c.imp fun _ _ => MemAt.up s⟩
theorem DivAt.up {w : World} {N N' : Led} (s : Up N N') {d : Addr} {R : List (List Int)} (h : DivAt w N d R) : DivAt w N' d R := by
  obtain ⟨od, rs, a, b, c, e⟩ := h; exact ⟨od, rs, s _ a (nc_isDict c), b, c, e.imp fun _ _ => RowV.up s⟩
theorem TupsIn.up {N N' : Led} (s : Up N N') {vs : List Value} {R : List (List Int)} (h : TupsIn N vs R) : TupsIn N' vs R :=
  ⟨h.1, fun i hi => let ⟨τ, o, a, b, c⟩ := h.2 i hi; ⟨τ, o, a, s _ b c.nc, c⟩⟩
theorem CompAt.mono {N N' : Led} (s : ∀ p ∈ N, p ∈ N') {v : Value} {c : CDat} (h : CompAt N v c) : CompAt N' v c := h.up (Up.of s)
theorem MemAt.mono {N N' : Led} (s : ∀ p ∈ N, p ∈ N') {v : Value} {c : CDat} (h : MemAt N v c) : MemAt N' v c := h.up (Up.of s)
theorem RowV.mono {N N' : Led} (s : ∀ p ∈ N, p ∈ N') {v : Value} {c : List Int} (h : RowV N v c) : RowV N' v c := h.up (Up.of s)
theorem FrameAt.mono {N N' : Led} (s : ∀ p ∈ N, p ∈ N') {x : Addr} {f : FDat} {cs : List CDat} (h : FrameAt N x f cs) : FrameAt N' x f cs := h.up (Up.of s)
theorem RowAt.mono {N N' : Led} (s : ∀ p ∈ N, p ∈ N') {x : Addr} {f : FDat} {cs : List CDat} (h : RowAt N x f cs) : RowAt N' x f cs := h.up (Up.of s)
theorem DivAt.mono {w : World} {N N' : Led} (s : ∀ p ∈ N, p ∈ N') {d : Addr} {R : List (List Int)} (h : DivAt w N d R) : DivAt w N' d R := h.up (Up.of s)
theorem TupsIn.mono {N N' : Led} (s : ∀ p ∈ N, p ∈ N') {vs : List Value} {R : List (List Int)} (h : TupsIn N vs R) : TupsIn N' vs R := h.up (Up.of s)
/-- the pieces of a list of made lists, all their places apart -/
inductive DueAt : Led → List Value → List CDat → Prop
  | nil : DueAt [] [] []
  | cons {e : Addr} {t1 t2 t3 t4 : Tok} {n : Nat} {E : Led} {vs : List Value} {cs : List CDat} {c : CDat} : (∀ p ∈ E, p.1 ≠ e) → DueAt E vs cs → DueAt ((e, listOf #[.int c.i t1, .int c.a t2, .int c.d t3, .int c.q t4] n) :: E) (.ref e :: vs) (c :: cs)
theorem DueAt.mem {E : Led} {vs : List Value} {cs : List CDat} (h : DueAt E vs cs) : Zip (MemAt E) vs cs := by
  induction h with
  | nil => exact .nil
  | cons _ _ ih => exact .cons ⟨_, _, _, _, _, _, rfl, .head _⟩ (ih.imp fun _ _ => MemAt.mono fun p hp => .tail _ hp)
/-- a row that has just been made -/
def RowNew (src : Addr) (rest rest' : Led) (r : Addr) (f : FDat) (cs : List CDat) : Prop :=
  ∃ ml E vs t1 t2 t3 t4 t5 nr nm, rest' = (r, listOf #[.str f.kind t1, .int f.p t2, .int f.h t3, .int f.w t4, .int f.n t5, .ref ml] nr) :: (ml, listOf (List.toArray vs) nm) :: (E ++ rest) ∧ DueAt E vs cs ∧
    r ≠ src ∧ ml ≠ src ∧ ml ≠ r ∧ (∀ p ∈ rest, p.1 ≠ r ∧ p.1 ≠ ml) ∧ ∀ p ∈ E, p.1 ≠ src ∧ p.1 ≠ r ∧ p.1 ≠ ml ∧ ∀ q ∈ rest, q.1 ≠ p.1
theorem RowNew.grow {src : Addr} {rest rest' : Led} {r : Addr} {f : FDat} {cs : List CDat} (h : RowNew src rest rest' r f cs) (off : OwnOff rest [src]) : Grow rest rest' src := by
  obtain ⟨ml, E, vs, t1, t2, t3, t4, t5, nr, nm, rfl, _, a, b, _, _, c⟩ := h
  refine ⟨fun p hp => .tail _ (.tail _ (List.mem_append_right _ hp)), fun p hp b' hb => ?_⟩
  rw [List.mem_singleton.mp hb]
  rcases List.mem_cons.mp hp with rfl | hp
  · exact a
  · rcases List.mem_cons.mp hp with rfl | hp
    · exact b
    · rcases List.mem_append.mp hp with hp | hp
      · exact (c p hp).1
      · exact off p hp src (List.mem_singleton.mpr rfl)
theorem RowNew.row {src : Addr} {rest rest' : Led} {r : Addr} {f : FDat} {cs : List CDat} (h : RowNew src rest rest' r f cs) : RowAt rest' r f cs := by
  obtain ⟨ml, E, vs, t1, t2, t3, t4, t5, nr, nm, rfl, d, _⟩ := h
  exact ⟨ml, t1, t2, t3, t4, t5, nr, nm, vs, .head _, .tail _ (.head _), d.mem.imp fun _ _ => MemAt.mono fun p hp => .tail _ (.tail _ (List.mem_append_left _ hp))⟩
/-- the ledger of the law: the source, and all else -/
theorem news_law {h₀ h : Heap} {L src : Addr} {o : Obj} {rest' all : Led} (N : News h₀ L h all) (h1 : (src, o) ∈ all) (h2 : ∀ p ∈ rest', p ∈ all) : News h₀ L h ((src, o) :: rest') := fun p hp => by
  rcases List.mem_cons.mp hp with rfl | hp
  · exact N _ h1
  · exact N _ (h2 p hp)
end Pred
section Gen
def idents (cs : List CDat) : Prop := cs.map (·.i) = [(40 : Int), 43, 46, 49].take cs.length
theorem offs {src : Addr} {l : Led} {rest : Led} (h : ∀ p ∈ l, p.1 ≠ src) (off : OwnOff rest [src]) : OwnOff (l ++ rest) [src] := fun p hp b hb => by
  rw [List.mem_singleton.mp hb]
  rcases List.mem_append.mp hp with hp | hp
  · exact h p hp
  · exact off p hp src (List.mem_singleton.mpr rfl)
theorem len4 {α : Type} {cs : List α} (h1 : 1 ≤ cs.length) (h4 : cs.length ≤ 4) : (∃ a, cs = [a]) ∨ (∃ a b, cs = [a, b]) ∨ (∃ a b c, cs = [a, b, c]) ∨ ∃ a b c d, cs = [a, b, c, d] := by
  match cs with
  | [a] => exact .inl ⟨a, rfl⟩
  | [a, b] => exact .inr (.inl ⟨a, b, rfl⟩)
  | [a, b, c] => exact .inr (.inr (.inl ⟨a, b, c, rfl⟩))
  | [a, b, c, d] => exact .inr (.inr (.inr ⟨a, b, c, d, rfl⟩))
  | [] => exact absurd h1 (Nat.not_succ_le_zero _)
  | _ :: _ :: _ :: _ :: _ :: _ => exact absurd h4 (by simp)
def dflt : CDat := ⟨0, 0, 0, 0⟩
theorem memOf {p : Addr × Obj} {l : List (Addr × Obj)} (h : p ∈ l) : List.Mem p l := h
theorem off_mem {Z : Led} {adr : List Addr} {a b : Addr} {o : Obj} (h : OwnOff Z adr) (hm : (a, o) ∈ Z) (hb : b ∈ adr) : a ≠ b := h _ hm b hb
theorem SubL.up {l Z Z' : Led} (s : ∀ p ∈ Z, p ∈ Z') (h : SubL l Z) : SubL l Z' := by
  induction l with
  | nil => trivial
  | cons p r ih => exact ⟨s _ h.1, ih h.2⟩
end Gen
section Cmp
open PyProof.Rows.LCg
def CompSrcD (prog : Program) (w : World) (A : Around) (h₀ : Heap) (L : Addr) (m : Str → Option Value) (env : Env) (elt : Expr) (x : Str) (scope : Scope) (cl : List (Str × Addr)) (Fin : Shared → List Value → Led → Prop) (xv : Value) (s₁ : Shared) : Prop :=
  ∃ (d : Addr) (od : Obj) (kvs : List (Int × Value)) (news : Led), xv = .ref d ∧ A.handled = none ∧ Fr h₀ L s₁.heap m ∧ News h₀ L s₁.heap news ∧ (d, od) ∈ news ∧ od.IsDictOf (intKind prog w) kvs ∧ (d == sysModules) = false ∧ kvs.length ≤ sizeLine ∧
    ∀ s₂ : Shared, (∃ h, s₂ = { s₁ with heap := h }) → CompRest prog w A h₀ L m env elt x scope cl s₂ (fun nw => (d, od) ∈ nw) (fun i v => ∃ k y, kvs[i]? = some (k, y) ∧ (intKind prog w).is k v = true) (Fin s₂) kvs.length 0 [] news
section
variable {prog : Program} {w : World} {A : Around} {E : Value → Shared → Prop} {s : Shared} {h₀ : Heap} {L : Addr} {m : Str → Option Value} {env : Env}
theorem CompSrcD.intro {elt : Expr} {x : Str} {scope : Scope} {cl : List (Str × Addr)} {Fin : Shared → List Value → Led → Prop} {d : Addr} {od : Obj} {kvs : List (Int × Value)} {news : Led} {s₁ : Shared}
    (hh : A.handled = none) (F : Fr h₀ L s₁.heap m) (N : News h₀ L s₁.heap news) (hm : (d, od) ∈ news) (hd : od.IsDictOf (intKind prog w) kvs) (lo : (d == sysModules) = false) (hsz : kvs.length ≤ sizeLine)
    (h : ∀ g, CompRest prog w A h₀ L m env elt x scope cl { s₁ with heap := g } (fun nw => (d, od) ∈ nw) (fun i v => ∃ k y, kvs[i]? = some (k, y) ∧ (intKind prog w).is k v = true) (Fin { s₁ with heap := g }) kvs.length 0 [] news) :
    CompSrcD prog w A h₀ L m env elt x scope cl Fin (.ref d) s₁ := ⟨d, od, kvs, news, rfl, hh, F, N, hm, hd, lo, hsz, fun _ ⟨g, e⟩ => e ▸ h g⟩
theorem ListComp_D {elt iter : Expr} {x : Str} {px : Pos} {scope : Scope} {cl : List (Str × Addr)} {pos : Pos} {Q : Value → Shared → Prop} (F₀ : Fr h₀ L s.heap m)
    (hclos : closureFor scope env = pure cl) (hcell : ∀ y ∈ scope.names, y.2 ≠ .cell) (hkind : scope.kind = .function)
    (hnames : ∀ y ∈ scope.names, y.2 = .local → scope.names.lookup y.1 = some .local) (hx : scope.names.lookup x = some .local)
    (h : wpAny (model prog w) A (eval iter env) (CompSrcD prog w A h₀ L m env elt x scope cl (fun s₂ => FinE h₀ L m s₂ Q)) E s)
    (hs : ∀ x, foldedSetIterable iter env x = pure x := by intro _; rfl) :
    wpAny (model prog w) A (eval (.ListComp elt [⟨.Name x px, iter, [], 0⟩] scope pos) env) Q E s := by
  rw [eval_ListComp]
  refine wpAny_comprehension_free (use := none) rfl hs hclos hkind hnames (wpAny_mono h (fun xv s₁ h₁ => ?_) fun _ _ e => e)
  obtain ⟨d, od, kvs, news, rfl, hh, F, N, hm, hd, lo, hsz, R⟩ := h₁
  obtain ⟨es, ep, hod⟩ := id hd
  have dat : ∀ (h : Heap), h.get? d = some od → h.DictAt (intKind prog w) d kvs ep := fun h e => ⟨od, es, e, hod⟩
  have hg := (N _ hm).1
  have hlt : d < s₁.heap.objs.size := Heap.lt_size hg
  refine wpAny_pyIter_dict lo (dat _ hg) ?_
  have up : ∀ b o, s₁.heap.get? b = some o → (s₁.heap.push { cls := .type "dict_keyiterator", data := .fields #[.ref d, .int 0 0, .int kvs.length 0, .int ep 0] }).get? b = some o := fun b o e => Heap.get?_push_of_some _ e
  refine block_U (Walks.dictKeys (knd := intKind prog w) hh s₁.heap.objs.size d (Nat.ne_of_lt hlt) kvs ep) hsz (fun i h st => by obtain ⟨o, e, _⟩ := st.1; exact ⟨o, e⟩)
    (fun i h h' o nw st e e' k N' S => ⟨by obtain ⟨o', q, r⟩ := st.1; rw [e] at q; cases q; exact ⟨o, e', r⟩, dat _ (N' _ S).1⟩) hcell hkind hx ⟨⟨_, Heap.get?_push_size _ rfl, rfl, rfl⟩, dat _ (up _ _ hg)⟩ (fun b hb => ?_)
    (F.keeps up) (N.grown up) (Nat.ne_of_lt F.ns.lt) (next_is_new F) (fun p hp => Nat.ne_of_lt (Heap.lt_size (N p hp).1)) hm (R _ ⟨_, rfl⟩) ?_
  · show b < (s₁.heap.push _).objs.size
    rw [Heap.size_push]
    rcases List.mem_cons.mp hb with rfl | hb
    · exact Nat.lt_succ_self _
    · rw [List.mem_singleton.mp hb]; exact Nat.lt_succ_of_lt hlt
  · intro D C h tk m' ys news' F' N' o1 hn hC₀ hD₀ hCL hDL hCD offC fin
    refine ⟨m', hn, fun h'' hs'' => fin D h'' tk (F'.change hs'' hCL hC₀) (fun p hp => ?_) o1⟩
    refine ⟨hs''.extBut _ _ ?_ (N' p hp).1, (N' p hp).2⟩
    rcases List.mem_cons.mp hp with rfl | hp
    · exact Ne.symm hCD
    · exact offC p hp
/-- a turn's end: what it made stands ahead of what was there -/
def GrowEnd (h₀ : Heap) (L : Addr) (m : Str → Option Value) (s₁ : Shared) (I : Addr) (oI : Obj) (C : Addr) (oC : Obj) (D : Addr) (oD : Obj) (nw bs : Led) (PA : Led → Value → Prop) (y : Value) (s₂ : Shared) : Prop :=
  ∃ h' tk W, s₂ = { s₁ with heap := h', toks := tk } ∧ Fr h₀ L h' m ∧ News h₀ L h' ((I, oI) :: (C, oC) :: (D, oD) :: (W ++ nw)) ∧ (∀ p ∈ W, (p.1 ≠ I ∧ p.1 ≠ C ∧ p.1 ≠ D) ∧ ∀ q ∈ nw, q.1 ≠ p.1) ∧ PA (W ++ bs) y
def GrowAt (rest : Led) (PA : Led → Nat → Value → Prop) (i : Nat) (ys : List Value) (Z : Led) : Prop := ys.length = i ∧ ∀ j, j < i → ∃ v, ys[j]? = some v ∧ PA (Z ++ rest) j v
theorem comp_grow {elt : Expr} {x : Str} {scope : Scope} {cl : List (Str × Addr)} {S : Led → Prop} {P : Nat → Value → Prop} {Fin : List Value → Led → Prop} {n : Nat} (pas rest : Led) (PA : Led → Nat → Value → Prop)
    (mono : ∀ W N i v, PA N i v → PA (W ++ N) i v) (hS : ∀ Z, S (Z ++ (pas ++ rest)))
    (turn : ∀ i v I oI C oC D m₂ ys nw bs h tk (E' : Value → Shared → Prop), i < n → P i v → NsObj oC m₂ → m₂ x = some v → (∀ p ∈ pas ++ rest, p ∈ nw) → (∀ p ∈ rest, p ∈ bs) → (∀ p ∈ bs, p ∈ nw) → Fr h₀ L h m → News h₀ L h ((I, oI) :: (C, oC) :: (D, lst ys) :: nw) → Off3 I C D nw → ((@Ne Nat I C) ∧ (@Ne Nat I D) ∧ (@Ne Nat C D)) →
      wpAny (model prog w) A (eval elt (compEnvC scope cl C env)) (GrowEnd h₀ L m { s with heap := h, toks := tk } I oI C oC D (lst ys) nw bs (fun N y => PA N i y)) E' { s with heap := h, toks := tk })
    (fin : ∀ ys Z, (∀ p ∈ Z, ∀ q ∈ pas ++ rest, q.1 ≠ p.1) → GrowAt rest PA n ys Z → Fin ys (Z ++ (pas ++ rest))) :
    CompRest prog w A h₀ L m env elt x scope cl s S P Fin n 0 [] (pas ++ rest) := by
  have key : ∀ k i ys Z, i + k = n → (∀ p ∈ Z, ∀ q ∈ pas ++ rest, q.1 ≠ p.1) → GrowAt rest PA i ys Z → CompRest prog w A h₀ L m env elt x scope cl s S P Fin k i ys (Z ++ (pas ++ rest)) := by
    intro k
    induction k with
    | zero =>
      intro i ys Z e fr g
      have e' : i = n := by omega
      subst e'
      exact CompRest.zero (fin ys Z fr g)
    | succ k ih =>
      intro i ys Z e fr g
      refine CompRest.succ fun v I oI C oC D m₂ h tk E' hP hC hx F N off ne => ?_
      refine wpAny_mono (turn i v I oI C oC D m₂ ys (Z ++ (pas ++ rest)) (Z ++ rest) h tk E' (by omega) hP hC hx (fun p hp => List.mem_append_right _ hp) (fun p hp => List.mem_append_right _ hp) (fun p hp => ?_) F N off ne) (fun y s₂ hg => ?_) fun _ _ e => e
      · rcases List.mem_append.mp hp with hp | hp
        · exact List.mem_append_left _ hp
        · exact List.mem_append_right _ (List.mem_append_right _ hp)
      · obtain ⟨h', tk', W, rfl, F', N', fw, pa⟩ := hg
        have ew : W ++ (Z ++ (pas ++ rest)) = (W ++ Z) ++ (pas ++ rest) := (List.append_assoc _ _ _).symm
        have ew2 : W ++ (Z ++ rest) = (W ++ Z) ++ rest := (List.append_assoc _ _ _).symm
        refine ⟨h', tk', W ++ (Z ++ (pas ++ rest)), rfl, F', N', Off3.of fun p hp => ?_, ?_, ?_⟩
        · rcases List.mem_append.mp hp with hp | hp
          · exact (fw p hp).1
          · exact off.mem p hp
        · rw [ew]; exact hS _
        · rw [ew]
          refine ih (i + 1) (ys ++ [y]) (W ++ Z) (by omega) (fun p hp q hq => ?_) ⟨by rw [List.length_append, List.length_singleton, g.1], fun j hj => ?_⟩
          · rcases List.mem_append.mp hp with hp | hp
            · exact (fw p hp).2 q (List.mem_append_right _ hq)
            · exact fr p hp q hq
          · by_cases hji : j < i
            · obtain ⟨v', h1, h2⟩ := g.2 j hji
              exact ⟨v', by rw [List.getElem?_append_left (by rw [g.1]; exact hji)]; exact h1, ew2 ▸ mono W _ j v' h2⟩
            · have ej : j = i := by omega
              subst ej
              exact ⟨y, by rw [← g.1]; simp, ew2 ▸ pa⟩
  exact key n 0 [] [] (by omega) (fun p hp => nomatch hp) ⟨rfl, fun j hj => absurd hj (Nat.not_lt_zero _)⟩
end
/-- the law's ledger behind a comprehension -/
theorem law_comp {h₀ h : Heap} {L src c1 c2 c3 D : Addr} {o o1 o2 o3 : Obj} {ys : List Value} {Z rest : Led} (N : News h₀ L h ((D, lst ys) :: (Z ++ ([(c1, o1), (c2, o2), (c3, o3), (src, o)] ++ rest)))) (off1 : Off1 D (Z ++ ([(c1, o1), (c2, o2), (c3, o3), (src, o)] ++ rest)))
    (fr : ∀ p ∈ Z, ∀ q ∈ [(c1, o1), (c2, o2), (c3, o3), (src, o)] ++ rest, q.1 ≠ p.1) (off : OwnOff rest [src, c1, c2, c3]) :
    ∃ rest', Up rest rest' ∧ OwnOff rest' [src, c1, c2, c3] ∧ (D, lst ys) ∈ rest' ∧ (∀ p ∈ Z ++ rest, p ∈ rest') ∧ News h₀ L h ((c1, o1) :: (c2, o2) :: (c3, o3) :: (src, o) :: rest') := by
  refine ⟨(D, lst ys) :: (Z ++ rest), fun p hp _ => .tail _ (List.mem_append_right _ hp), fun p hp b hb => ?_, .head _, fun p hp => .tail _ hp, news_sub N fun p hp => ?_⟩
  · have dne : ∀ {a : Addr} {oa : Obj}, (a, oa) ∈ [(c1, o1), (c2, o2), (c3, o3), (src, o)] → D ≠ a := fun {a oa} hm => (off1_at off1 (List.mem_append_right _ (List.mem_append_left _ hm))).symm
    simp only [List.mem_cons, List.mem_append, List.not_mem_nil, or_false] at hp hb
    rcases hp with rfl | hp | hp
    · rcases hb with rfl | rfl | rfl | rfl
      · exact dne (oa := o) (by simp)
      · exact dne (oa := o1) (by simp)
      · exact dne (oa := o2) (by simp)
      · exact dne (oa := o3) (by simp)
    · rcases hb with rfl | rfl | rfl | rfl
      · exact (fr p hp (b, o) (by simp)).symm
      · exact (fr p hp (b, o1) (by simp)).symm
      · exact (fr p hp (b, o2) (by simp)).symm
      · exact (fr p hp (b, o3) (by simp)).symm
    · exact off p hp b (by simp only [List.mem_cons, List.not_mem_nil, or_false]; exact hb)
  · simp only [List.mem_cons, List.mem_append, List.not_mem_nil, or_false] at hp ⊢
    rcases hp with hp | hp | hp | hp | hp | hp | hp <;> simp only [hp, true_or, or_true]
end Cmp
section Numb
theorem ln_Numb_0 : True := by
  k_with_none
  w_top off
  trivial
/-- the refs of a list, each a tuple of ints of the ledger -/
def AtI (R : List (List Int)) (i : Nat) : Prop := i < R.length
def firstsStep (R : List (List Int)) (l : List Int) (k : Int) : List Int := if R.getD k.toNat [] ∈ R.take k.toNat then l else l ++ [k]
def firsts (R : List (List Int)) : List Int := (rangeKs 0 R.length).foldl (firstsStep R) []
def numb (R : List (List Int)) (i : Nat) : Int := ((firsts R).filter fun q => q < (R.idxOf (R.getD i []) : Int)).length
def NJ (R : List (List Int)) (m₀ : Str → Option Value) (fl C : Addr) (tail : List (Addr × Obj)) (i : Nat) (m₁ : Str → Option Value) (news₁ : List (Addr × Obj)) : Prop :=
  ∃ u ys nn oat v, oat.data = .cell v ∧ m₁ = (fun y => if y = Str.ofString "firsts" then u else m₀ y) ∧ news₁ = (fl, listOf ys.toArray nn) :: (C, oat) :: tail ∧ IntsAre ys ((List.range i).map (numb R))
theorem nj_first {R : List (List Int)} {m₀ : Str → Option Value} {fl C : Addr} {tail : List (Addr × Obj)} {oat : Obj} {v : Option Value} (h : oat.data = .cell v) : NJ R m₀ fl C tail 0 m₀ ((fl, listOf #[] 0) :: (C, oat) :: tail) :=
  ⟨m₀ (Str.ofString "firsts"), [], 0, oat, v, h, funext fun y => by split <;> simp_all, rfl, .nil⟩

section
variable {prog : Program} {w : World} {A : Around} {E : Value → Shared → Prop} {s : Shared} {env : Env} {h₀ : Heap} {L : Addr} {m₀ : Str → Option Value} {Q : Flow → Shared → Prop}
def NumTurn (R : List (List Int)) (h₀ : Heap) (L : Addr) (m₀ : Str → Option Value) (fl C : Addr) (tail : List (Addr × Obj)) (i : Nat) (I : Addr) (s₁ : Shared) (Q : Flow → Shared → Prop) (f : Flow) (s₂ : Shared) : Prop :=
  TurnPost h₀ L (NJ R m₀ fl C tail (i + 1)) I (itR ((i + 1 : Nat) : Int) ((R.length : Int) - ((i + 1 : Nat) : Int))) s₁ Q f s₂
theorem num_end {R : List (List Int)} {fl C I : Addr} {tail all : List (Addr × Obj)} {i : Nat} {s₁ : Shared} {h : Heap} {tk : Nat} {m' : Str → Option Value} {oat : Obj} {v : Option Value} {ys : List Value} {nn : Nat}
    (F : Fr h₀ L h m') (N : News h₀ L h all) (e : ∀ y, y ≠ Str.ofString "firsts" → m' y = m₀ y) (m1 : (I, itR ((i + 1 : Nat) : Int) ((R.length : Int) - ((i + 1 : Nat) : Int))) ∈ all) (m2 : (fl, listOf ys.toArray nn) ∈ all) (m3 : (C, oat) ∈ all) (sub : ∀ p ∈ tail, p ∈ all) (off : LCg.Off1 I ((fl, listOf ys.toArray nn) :: (C, oat) :: tail))
    (ho : oat.data = .cell v) (hi : IntsAre ys ((List.range (i + 1)).map (numb R))) : NumTurn R h₀ L m₀ fl C tail i I s₁ Q .next { s₁ with heap := h, toks := tk } := by
  refine ⟨h, tk, m', (fl, listOf ys.toArray nn) :: (C, oat) :: tail, rfl, F, fun p hp => ?_, fun p hp => off1_at off (o := p.2) hp, m' (Str.ofString "firsts"), ys, nn, oat, v, ho, funext fun y => ?_, rfl, hi⟩
  · rcases List.mem_cons.mp hp with rfl | hp
    · exact N _ m1
    · rcases List.mem_cons.mp hp with rfl | hp
      · exact N _ m2
      · rcases List.mem_cons.mp hp with rfl | hp
        · exact N _ m3
        · exact N _ (sub p hp)
  · split
    · rename_i h; rw [h]
    · rename_i h; exact e y h
theorem num_end' {R : List (List Int)} {fl C I : Addr} {tail all : List (Addr × Obj)} {i : Nat} {s₁ : Shared} {h : Heap} {tk : Nat} {m' : Str → Option Value} {oat o0 o1 : Obj} {v : Option Value} {ys : List Value} {nn : Nat} {t : Tok}
    (F : Fr h₀ L h m') (N : News h₀ L h all) (e : ∀ y, y ≠ Str.ofString "firsts" → m' y = m₀ y) (m1 : (I, itR ((i + 1 : Nat) : Int) ((R.length : Int) - ((i + 1 : Nat) : Int))) ∈ all) (m2 : (fl, listOf (ys.toArray.push (.int (numb R i) t)) nn) ∈ all) (m3 : (C, oat) ∈ all) (sub : ∀ p ∈ tail, p ∈ all) (off : LCg.Off1 I ((fl, o0) :: (C, o1) :: tail))
    (ho : oat.data = .cell v) (hi : IntsAre ys ((List.range i).map (numb R))) : NumTurn R h₀ L m₀ fl C tail i I s₁ Q .next { s₁ with heap := h, toks := tk } := by
  refine num_end (ys := ys ++ [.int (numb R i) t]) F N e m1 (nn := nn) ?_ m3 sub off ho ?_
  · rw [List.push_toArray] at m2
    exact m2
  · rw [List.range_succ, List.map_append]
    exact IntsAre.append hi (.cons _ t .nil)
theorem off1_of {I : Addr} : ∀ {l : List (Addr × Obj)}, (∀ p ∈ l, p.1 ≠ I) → LCg.Off1 I l
  | [], _ => trivial
  | p :: _, h => ⟨h p (.head _), off1_of fun q hq => h q (.tail _ hq)⟩
theorem for_numb {target : Expr} {body : List Stmt} {r : Addr} {t u v : Tok} {R : List (List Int)} {fl C : Addr} {oat : Obj} {cv : Option Value} {tail : List (Addr × Obj)}
    (hh : A.handled = none) (hr : IsRange s.heap r 0 (R.length : Int) 1 t u v) (hR : R.length ≤ 4) (F : Fr h₀ L s.heap m₀) (N : News h₀ L s.heap ((fl, listOf #[] 0) :: (C, oat) :: tail)) (ho : oat.data = .cell cv)
    (hE : PassesOwn (model prog w) A env E) (ht : ∀ v, letOwnedTupleGo target (.ref s.heap.objs.size) v = pure ())
    (turn : ∀ (i : Nat) (I : Addr) (t : Tok) (u : Option Value) (ys : List Value) (nn : Nat) (oat : Obj) (cv : Option Value) (h : Heap) (tk : Nat), AtI R i → oat.data = .cell cv → IntsAre ys ((List.range i).map (numb R)) → ys.length ≤ 4 →
      LCg.Off1 I ((fl, listOf ys.toArray nn) :: (C, oat) :: tail) → Fr h₀ L h (fun y => if y = Str.ofString "firsts" then u else m₀ y) → News h₀ L h ((I, itR ((i + 1 : Nat) : Int) ((R.length : Int) - ((i + 1 : Nat) : Int))) :: (fl, listOf ys.toArray nn) :: (C, oat) :: tail) →
      wpAny (model prog w) A (assign target env (.int (i : Int) t)) (fun _ s₂ => wpAny (model prog w) A (execs body env) (NumTurn R h₀ L m₀ fl C tail i I { s with heap := h, toks := tk } Q) E s₂) E { s with heap := h, toks := tk })
    (done : ∀ (u : Option Value) (ys : List Value) (nn : Nat) (oat : Obj) (cv : Option Value) (h : Heap) (tk : Nat), oat.data = .cell cv → IntsAre ys ((List.range R.length).map (numb R)) →
      Fr h₀ L h (fun y => if y = Str.ofString "firsts" then u else m₀ y) → News h₀ L h ((fl, listOf ys.toArray nn) :: (C, oat) :: tail) → Q .next { s with heap := h, toks := tk }) :
    wpAny (model prog w) A (pyIter (.ref r)) (fun it s₂ => codeAny (model prog w) A (.forLoop target it body [] env) (fun r s' => match r with | .ok f => Q f s' | .error e => cameBackBy (model prog w) A env E e s') s₂) E s := by
  refine for_any (NJ R m₀ fl C tail) hh hr ?_ (by first | exact rangeSize_nat _ _ | rfl) F N (nj_first ho) ?_ ?_ hE ht
  · exact small_one (by omega) (by omega) (by omega) (by omega)
  · rintro i I t m₁ news₁ h tk hi ⟨u, ys, nn, oat, cv, hc, rfl, rfl, hy⟩ off F N
    refine turn i I t u ys nn oat cv h tk hi hc hy ?_ (off1_of off) F N
    rw [hy.length]; simp; omega
  · rintro m₁ news₁ h tk ⟨u, ys, nn, oat, cv, hc, rfl, rfl, hy⟩ F N
    exact done u ys nn oat cv h tk hc hy F N
end
local macro_rules | `(tactic| k_ne) => `(tactic| first | (refine neN ?_; (try dsimp only); omega) | exact off1_at (by with_reducible assumption) (by k_mem) | exact (off1_at (by with_reducible assumption) (by k_mem)).symm)
local macro_rules | `(tactic| k_all) => `(tactic| exact fun p hp => Nat.ne_of_lt (Nat.lt_of_lt_of_le (ktn_ltOf (by first | with_reducible assumption | exact and1 (by with_reducible assumption)) p hp) (by omega)))
theorem ln_Numb_1 : True := by
  k_with "exec For Name Call cons nil" => (k_here; k_dflt (refine wpAny_For ?_))
  k_with "call builtin:len" => (k_here; (with_reducible show wpAny _ _ (call (Value.builtin "len") [Value.ref _]) _ _ _); k_dflt (refine' kun_lenL ?k1z9 ?k2z9 ?k3z9 ?_; (case k1z9 => exact News.isList (by k_asm) (by k_mem)); (case k2z9 => assumption); (case k3z9 => omega); k_whole))
  k_with "pyIter ref" => (k_here; (rename Fr _ _ _ _ => kF9r3); (rename News _ _ _ _ => kN9r3); (rename TupsIn _ _ _ => hT9r3); k_dflt (refine' for_numb ?hhz9 ?hrz9 ?hRz9 kF9r3 kN9r3 ?hoz9 ?hEz9 ?htz9 ?turnz9 ?donez9; (case hhz9 => exact rfl); (case hrz9 => assumption); (case hRz9 => assumption); (case hoz9 => assumption); (case htz9 => intro _; rfl); (case' turnz9 => intro i' I' t' u' ys' nn' oat' cv' h' tk' hi' ho' hy' hl' off' F' N'); (case' donez9 => intro u' ys' nn' oat' cv' h' tk' ho' hy' F' N'); k_whole))
  trivial
theorem firsts_grows {R : List (List Int)} : KPfGrows (firstsStep R) := by
  intro l k; unfold firstsStep; split <;> simp
section
variable {prog : Program} {w : World} {A : Around} {h₀ : Heap} {L : Addr} {m : Str → Option Value} {env : Env} {ct elt : Expr} {x : Str} {scope : Scope} {cl : List (Str × Addr)} {s : Shared} {S : List (Addr × Obj) → Prop} {P : Nat → Value → Prop} {Fin : List Value → List (Addr × Obj) → Prop} {news : List (Addr × Obj)}
theorem kci_firsts {n : Nat} {R : List (List Int)} {nw : List (Addr × Obj)} {vs : List Value} (_hT : TupsIn nw vs R)
    (turn : ∀ k t I oI C oC D m₂ ys l h tk (E' : Value → Shared → Prop), (0 : Int) ≤ k → k < 0 + (n : Int) → IntsAre ys l → LCg.NsObj oC m₂ → m₂ x = some (.int k t) → Fr h₀ L h m → News h₀ L h ((I, oI) :: (C, oC) :: (D, LCg.lst ys) :: news) → LCg.Off3 I C D news → ((@Ne Nat I C) ∧ (@Ne Nat I D) ∧ (@Ne Nat C D)) →
      wpAny (model prog w) A (isTrue ct (compEnvC scope cl C env) (eval ct (compEnvC scope cl C env))) (fun b s' => if b = true then wpAny (model prog w) A (eval elt (compEnvC scope cl C env)) (LCg.CompEnd h₀ L m { s with heap := h, toks := tk } I oI C oC D (LCg.lst ys) S (fun y news' => KCiEl news l (firstsStep R l k) y news')) E' s'
        else LCg.CompEnd h₀ L m { s with heap := h, toks := tk } I oI C oC D (LCg.lst ys) S (fun _ news' => KCiNo news l (firstsStep R l k) news') Value.none s') E' { s with heap := h, toks := tk })
    (hn : n = R.length) (fin : ∀ ys, IntsAre ys (firsts R) → ys.length ≤ R.length → Fin ys news) : LCt.CompRestT prog w A h₀ L m env ct elt x scope cl s S (fun i v => ∃ t, v = .int (0 + (i : Int)) t) Fin n 0 [] news :=
  kci_range (firstsStep R) (fun k t I oI C oC D m₂ ys l h tk E' a b c d e f g i j _ => turn k t I oI C oC D m₂ ys l h tk E' a b c d e f g i j) (by subst hn; exact fin) firsts_grows
def idxStep (R : List (List Int)) (i : Nat) (l : List Int) (k : Int) : List Int := if k < (R.idxOf (R.getD i []) : Int) then l ++ [k] else l
theorem idx_grows {R : List (List Int)} {i : Nat} : KPfGrows (idxStep R i) := by
  intro l k; unfold idxStep; split <;> simp
theorem idx_fold {R : List (List Int)} {i : Nat} (ns : List Int) : ∀ acc : List Int, ns.foldl (idxStep R i) acc = acc ++ ns.filter fun q => q < (R.idxOf (R.getD i []) : Int) := by
  induction ns with
  | nil => intro acc; simp
  | cons n r ih =>
    intro acc
    rw [List.foldl_cons, ih]
    unfold idxStep
    by_cases h : n < (R.idxOf (R.getD i []) : Int)
    · rw [if_pos h, List.filter_cons_of_pos (by simpa using h)]; simp
    · rw [if_neg h, List.filter_cons_of_neg (by simpa using h)]
theorem kci_below {R : List (List Int)} {i : Nat} {vs : List Value} (_hi : AtI R i) (hy : IntsAre vs (firsts R)) (hl : vs.length ≤ 4)
    (turn : ∀ k t I oI C oC D m₂ ys l h tk (E' : Value → Shared → Prop), IntsAre ys l → LCg.NsObj oC m₂ → m₂ x = some (.int k t) → Fr h₀ L h m → News h₀ L h ((I, oI) :: (C, oC) :: (D, LCg.lst ys) :: news) → LCg.Off3 I C D news → ((@Ne Nat I C) ∧ (@Ne Nat I D) ∧ (@Ne Nat C D)) →
      wpAny (model prog w) A (isTrue ct (compEnvC scope cl C env) (eval ct (compEnvC scope cl C env))) (fun b s' => if b = true then wpAny (model prog w) A (eval elt (compEnvC scope cl C env)) (LCg.CompEnd h₀ L m { s with heap := h, toks := tk } I oI C oC D (LCg.lst ys) S (fun y news' => KCiEl news l (idxStep R i l k) y news')) E' s'
        else LCg.CompEnd h₀ L m { s with heap := h, toks := tk } I oI C oC D (LCg.lst ys) S (fun _ news' => KCiNo news l (idxStep R i l k) news') Value.none s') E' { s with heap := h, toks := tk })
    (fin : ∀ ys : List Value, ((ys.toArray.size : Nat) : Int) = numb R i → numb R i ≤ 4 → ys.length ≤ 4 → Fin ys news) : LCt.CompRestT prog w A h₀ L m env ct elt x scope cl s S (fun i v => vs.toArray[i]? = some v) Fin vs.toArray.size 0 [] news :=
  kci_list (idxStep R i) hy (fun k t I oI C oC D m₂ ys l h tk E' _ b c d e f g i _ => turn k t I oI C oC D m₂ ys l h tk E' b c d e f g i) (fun ys hys hl' => by
    have e : ((ys.toArray.size : Nat) : Int) = numb R i := by
      rw [List.size_toArray, hys.length, idx_fold]; simp [numb]
    rw [List.size_toArray] at hl'
    refine fin ys e ?_ (by omega)
    rw [← e, List.size_toArray]
    omega) idx_grows
end
theorem ci_el {h₀ : Heap} {L I C D : Addr} {m : Str → Option Value} {s₁ : Shared} {oI oC oD : Obj} {S : List (Addr × Obj) → Prop} {a : Int} {t : Tok} {h' : Heap} {tk : Nat} {all nws : List (Addr × Obj)} {l r : List Int}
    (F : Fr h₀ L h' m) (N : News h₀ L h' all) (m1 : (I, oI) ∈ all) (m2 : (C, oC) ∈ all) (m3 : (D, oD) ∈ all) (off : LCg.Off3 I C D nws) (sub : ∀ p ∈ nws, p ∈ all) (hS : S nws) (e : r = l ++ [a]) :
    LCg.CompEnd h₀ L m s₁ I oI C oC D oD S (fun y news' => KCiEl nws l r y news') (.int a t) { s₁ with heap := h', toks := tk } :=
  LCg.CompEnd.intro F N nws (fun p hp => by
    rcases List.mem_cons.mp hp with rfl | hp
    · exact m1
    · rcases List.mem_cons.mp hp with rfl | hp
      · exact m2
      · rcases List.mem_cons.mp hp with rfl | hp
        · exact m3
        · exact sub p hp) off hS ⟨rfl, a, t, rfl, e⟩
theorem ci_no {h₀ : Heap} {L I C D : Addr} {m : Str → Option Value} {s₁ : Shared} {oI oC oD : Obj} {S : List (Addr × Obj) → Prop} {v : Value} {h' : Heap} {tk : Nat} {all nws : List (Addr × Obj)} {l r : List Int}
    (F : Fr h₀ L h' m) (N : News h₀ L h' all) (m1 : (I, oI) ∈ all) (m2 : (C, oC) ∈ all) (m3 : (D, oD) ∈ all) (off : LCg.Off3 I C D nws) (sub : ∀ p ∈ nws, p ∈ all) (hS : S nws) (e : r = l) :
    LCg.CompEnd h₀ L m s₁ I oI C oC D oD S (fun _ news' => KCiNo nws l r news') v { s₁ with heap := h', toks := tk } :=
  LCg.CompEnd.intro F N nws (fun p hp => by
    rcases List.mem_cons.mp hp with rfl | hp
    · exact m1
    · rcases List.mem_cons.mp hp with rfl | hp
      · exact m2
      · rcases List.mem_cons.mp hp with rfl | hp
        · exact m3
        · exact sub p hp) off hS ⟨rfl, e⟩
theorem getD_mem {R : List (List Int)} {i : Nat} (h : AtI R i) : R.getD i [] ∈ R := by
  rw [List.getD_eq_getElem?_getD, List.getElem?_eq_getElem h]; exact List.getElem_mem h
theorem getD_mem' {R : List (List Int)} {i : Nat} (h : AtI R i) : R.getD ((i : Int).toNat) [] ∈ R := getD_mem h
theorem ln_Numb_2 : True := by
  k_with "CompSrcT" => (k_here; (rename TupsIn _ _ _ => hT9r4); k_dflt ((refine LCt.CompSrcT.range (by rfl) (by k_asm) (by k_asm) (by assumption) (small_one (by omega) (by omega) (by omega) (by omega)) (by first | exact rangeSize_nat _ _ | rfl) (by rw [PySem.sizeLine_eq]; omega) ?_); intro g'; (refine' kci_firsts hT9r4 ?_ rfl ?_; ((intro k' t' I' oI' C' oC' D' m' ys' l' h' tk' E' hlo' hhi' hI' hC' hx' F' N' off' ne'; (try dsimp only))); rotate_left; ((intro ys' hy' hl')); rotate_left)))
  k_with "CompSrcT" => (k_here; (rename AtI _ _ => hi9r5); (rename IntsAre _ (firsts _) => hy9r5); (refine LCt.CompSrcT.ledger (by rfl) (by k_asm) (by k_asm) (by k_mem) ?cszz9 ?_; (case cszz9 => rw [PySem.sizeLine_eq, List.size_toArray]; omega)); intro g'; k_dflt (refine' kci_below hi9r5 hy9r5 ?bclz9 ?_ ?_; (case bclz9 => omega); ((intro k' t' I' oI' C' oC' D' m' ys' l' h' tk' E' hI' hC' hx' F' N' off' ne'; (try dsimp only))); rotate_left; ((intro ys' hy' hn' hl')); rotate_left))
  k_with "eval ListComp" => (k_here; k_dflt (refine LCt.ListComp_T (F₀ := by k_asm) (by with_unfolding_all rfl) (by decide) (by rfl) (by decide) (by rfl) ?_))
  k_with "subscriptTail" => (k_here; (with_reducible show wpAny _ _ (subscriptTail _ _ (Value.ref _) (Value.int _ _)) _ _ _); (rename TupsIn _ _ _ => hT9r7); k_dflt (refine' tail_row ?Nz9 hT9r7 ?mz9 ?h0z9 ?h1z9 ?h4z9 ?_; (case Nz9 => k_asm); (case mz9 => k_mem); (case h0z9 => omega); (case h1z9 => first | omega | ((rename AtI _ _ => hi8); unfold AtI at hi8; omega)); (case h4z9 => assumption); k_whole); intro τ' oτ' hm' hx')
  k_with "subscriptTail Name Slice ref ref" => (k_here; k_dflt (refine' slice_rows ?Fz9 ?Nz9 ?lz9 ?h0z9 ?hzz9 ?_ ?sz9 ?tz9; (case Fz9 => k_asm); (case Nz9 => k_asm); (case lz9 => k_mem); (case h0z9 => omega); (case hzz9 => assumption); (case sz9 => with_unfolding_all rfl); (case tz9 => kmk_pure); k_whole); intro D' h' F' N' l1; (try k_lt l1); (try k_sweep))
  k_with "memN" => (repeat (first | assumption | refine List.Mem.tail _ ?_))
  k_with "numE" => ((try unfold firstsStep); (try unfold idxStep); first | (rw [if_pos (by first | assumption | simp_all | omega)]; done) | (rw [if_neg (by first | assumption | simp_all | omega)]; done))
  k_with "subN" => (intro p hp; (repeat (first | exact hp | refine List.Mem.tail _ ?_)))
  k_with "NumTurn" => (k_here; k_dflt (refine' num_end' ?Fz9 ?Nz9 ?ez9 ?m1z9 ?m2z9 ?m3z9 ?subz9 ?offz9 ?hoz9 ?hiz9; (case Fz9 => k_asm); (case Nz9 => k_asm); (case ez9 => (intro y hy; simp only [if_neg hy])); (case m1z9 => k_mem); (case m2z9 => k_mem); (case m3z9 => k_mem); (case subz9 => (walk_at "subN")); (case offz9 => assumption); (case hoz9 => assumption); (case hiz9 => assumption)))
  k_with "CompEnd" => (k_here; k_dflt (first | (refine' ci_el ?Fz9 ?Nz9 ?m1z9 ?m2z9 ?m3z9 ?offz9 ?subz9 ?Sz9 ?ez9; (case Fz9 => k_asm); (case Nz9 => k_asm); (case m1z9 => k_mem); (case m2z9 => k_mem); (case m3z9 => k_mem); (case offz9 => assumption); (case subz9 => (walk_at "subN")); (case Sz9 => lcg_src); (case ez9 => (walk_at "numE"))) | (refine' ci_no ?Fz9 ?Nz9 ?m1z9 ?m2z9 ?m3z9 ?offz9 ?subz9 ?Sz9 ?ez9; (case Fz9 => k_asm); (case Nz9 => k_asm); (case m1z9 => k_mem); (case m2z9 => k_mem); (case m3z9 => k_mem); (case offz9 => assumption); (case subz9 => (walk_at "subN")); (case Sz9 => lcg_src); (case ez9 => (walk_at "numE")))))
  k_with "compareOp NotIn ref ref" => (k_here; (rename TupsIn _ _ _ => hT9r14); (rename TupO _ _ => hx9r14); k_dflt (refine' notin_rows ?Nz9 hT9r14 ?subz9 ?tz9 hx9r14 ?mz9 ?uz9 ?_; (case Nz9 => k_asm); (case subz9 => (walk_at "subN")); (case tz9 => (walk_at "memN")); (case mz9 => k_mem); (case uz9 => ktr_units); k_whole))
  k_with "call builtin:list.index" => (k_here; (rename TupsIn _ _ _ => hT9r15); (rename TupO _ _ => hx9r15); k_dflt (refine' index_rows ?Nz9 hT9r15 ?subz9 ?tz9 hx9r15 ?mz9 ?iz9 ?h4z9 ?uz9 ?_; (case Nz9 => k_asm); (case subz9 => (walk_at "subN")); (case tz9 => (walk_at "memN")); (case mz9 => k_mem); (case iz9 => first | exact getD_mem (by assumption) | exact getD_mem' (by assumption)); (case uz9 => ktr_units); (case h4z9 => assumption); k_whole))
  trivial

set_option maxHeartbeats 4000000 in
theorem numb_c (w : World) : ∀ {loose : List Str} {mean : ExcName → Option Value} {mg mb : Str → Option Value} {dp un : Nat} {gd : Option (List Code)} {cn : Str} {cs : Scope} {a : Addr} {ccd : Value} {cl : List (Str × Addr)} {outer : List Env} {A₀ : Around} {base h₀ : Heap} {L : Addr} {m : Str → Option Value} {s : Shared} {Q E : Value → Shared → Prop} {rl : Addr} {vs : List Value} {n0 : Nat} {R : List (List Int)} {news : List (Addr × Obj)},
    Below A₀ base outer h₀ → Fr h₀ L s.heap m → (Mine.kv.heap_1_1 w.params).In h₀ → News h₀ L s.heap ((rl, listOf vs.toArray n0) :: news) → Top Mine.kv.view_1_2 loose mean mg mb h₀ → cs.kind = .function → TupsIn news vs R → R.length ≤ 4 → vs.length ≤ 65536 → dp + 10 < recursionLimit → un + 200 < cLine →
    (∀ (fl : Addr) (ys : List Value) (nn : Nat) (h' : Heap) (tk' : Nat), IntsAre ys ((List.range R.length).map (numb R)) → Fr h₀ L h' m → News h₀ L h' ((fl, listOf ys.toArray nn) :: (rl, listOf vs.toArray n0) :: news) → @LT.lt Nat _ rl fl → AllLt fl news → Q (.ref fl) { s with heap := h', toks := tk' }) →
    wpAny (model PySem.Challenge.rw_ok0144_01.row.prog w) (ktrTop dp un gd cn cs L a ccd cl outer) (call (.ref 345) [.ref rl]) Q E s := by
  k_fill
  intro loose mean mg mb dp un gd cn cs a ccd cl outer A₀ base h₀ L m s Q E rl vs n0 R news B F X N T hk hT hR hv hd hu hret
  have hsz : (vs.toArray.size : Int) = (R.length : Int) := by rw [List.size_toArray, hT.1]
  refine wpAny_call ?_
  k_dflt (refine' code_defC ?k1 ?k2 ?k3 ?k4 ?k5 ?kA ?kF ?kK ?k6 ?k7 ?k8 ?k9 ?kB ?kD ?_ ?c2 ?c3 ?c4; (case kA => exact rfl); (case kF => exact rfl); (case kK => assumption); (case k1 => k_asm); (case k2 => k_asm); (case k3 => k_asm); (case k4 => k_asm); (case k5 => k_asm); (case k6 => k_is); (case k7 => k_is); (case k8 => k_room); (case k9 => exact BindsTo.of_eq rfl); (case kB => exact rfl); (case kD => decide +kernel); (case c2 => exact rfl); (case c3 => exact rfl); (case c4 => exact rfl); k_whole; intro g' L' h' tk' cells' FG' F' N' Y' B' X' T' l1; (try k_lt l1); k_cells Y'; (try simp only [List.cons_append, List.nil_append] at N'); (try dsimp only); (try k_lift B'); (try k_fold))
  k_steps
  (rename Fr _ _ _ _ => kF9)
  (rename News _ _ _ _ => kN9)
  rename IntsAre _ _ => hI9
  exact hret _ _ _ _ _ hI9 kF9 (news_cut [_] [_, _] kN9) (by omega) (and3 (by assumption))
end Numb
section FrmG
theorem ln_FrmG_0 : True := by
  k_with_none
  w_top off
  trivial
/-- between the turns of the loop that makes the components -/
def FJ (m₀ : Str → Option Value) (src lst : Addr) (rest₀ : Led) (i : Nat) (m₁ : Str → Option Value) (news₁ : Led) : Prop :=
  ∃ (up : Option Value) (o : Obj) (ys : List Value) (ny : Nat) (cps : List CDat) (Z : Led),
    m₁ = (fun y => if y = Str.ofString "place" then up else m₀ y) ∧ news₁ = (src, o) :: (lst, listOf ys.toArray ny) :: Z ∧ SrcObj o ∧ Zip (CompAt Z) ys cps ∧ cps.length = i ∧ idents cps ∧ (∀ p ∈ rest₀, p ∈ Z) ∧ OwnOff Z [src, lst]
theorem idents_snoc {cps : List CDat} {c : CDat} (h : idents cps) (h4 : cps.length < 4) (hc : c.i = 40 + 3 * (cps.length : Int)) : idents (cps ++ [c]) := by
  unfold idents at *
  rw [List.map_append, h, List.length_append]
  match hn : cps.length with
  | 0 => simp [hn] at hc; simp [hc]
  | 1 => simp [hn] at hc; simp [hc]
  | 2 => simp [hn] at hc; simp [hc]
  | 3 => simp [hn] at hc; simp [hc]
  | n + 4 => omega
section
variable {prog : Program} {w : World} {A : Around} {E : Value → Shared → Prop} {s : Shared} {env : Env} {h₀ : Heap} {L : Addr} {m₀ : Str → Option Value} {Q : Flow → Shared → Prop}
def FrmTurn (h₀ : Heap) (L : Addr) (m₀ : Str → Option Value) (src lst : Addr) (rest₀ : Led) (n i : Nat) (I : Addr) (s₁ : Shared) (Q : Flow → Shared → Prop) (f : Flow) (s₂ : Shared) : Prop :=
  TurnPost h₀ L (FJ m₀ src lst rest₀ (i + 1)) I (itR ((i + 1 : Nat) : Int) ((n : Int) - ((i + 1 : Nat) : Int))) s₁ Q f s₂
theorem frm_end {src lst I xn dn : Addr} {o odn : Obj} {rest₀ all Z : Led} {n i : Nat} {s₁ : Shared} {h : Heap} {tk : Nat} {m' : Str → Option Value} {ys : List Value} {ny : Nat} {cps : List CDat} {a d q : Int}
    (F : Fr h₀ L h m') (N : News h₀ L h all) (e : ∀ y, y ≠ Str.ofString "place" → m' y = m₀ y) (m1 : (I, itR ((i + 1 : Nat) : Int) ((n : Int) - ((i + 1 : Nat) : Int))) ∈ all) (m2 : (src, o) ∈ all) (m3 : (lst, listOf (ys.toArray.push (.ref xn)) ny) ∈ all)
    (m4 : (xn, instObj 45 dn) ∈ all) (m5 : (dn, odn) ∈ all) (sub : ∀ p ∈ Z, p ∈ all) (S : SrcObj o) (hZ : Zip (CompAt Z) ys cps) (hl : cps.length = i) (h4 : i < 4) (hid : idents cps) (hC : CompD odn (40 + 3 * (i : Int)) a d q) (s0 : ∀ p ∈ rest₀, p ∈ Z)
    (off : OwnOff Z [I, src, lst]) (n1 : src ≠ I) (n2 : lst ≠ I) (x1 : xn ≠ I ∧ xn ≠ src ∧ xn ≠ lst) (d1 : dn ≠ I ∧ dn ≠ src ∧ dn ≠ lst) :
    FrmTurn h₀ L m₀ src lst rest₀ n i I s₁ Q .next { s₁ with heap := h, toks := tk } := by
  subst hl
  have up : ∀ p ∈ Z, p ∈ (xn, instObj 45 dn) :: (dn, odn) :: Z := fun p hp => .tail _ (.tail _ hp)
  refine ⟨h, tk, m', (src, o) :: (lst, listOf (ys ++ [Value.ref xn]).toArray ny) :: (xn, instObj 45 dn) :: (dn, odn) :: Z, rfl, F, fun p hp => ?_, fun p hp => ?_, m' (Str.ofString "place"), o, ys ++ [.ref xn], ny, cps ++ [⟨40 + 3 * (cps.length : Int), a, d, q⟩], (xn, instObj 45 dn) :: (dn, odn) :: Z, funext fun y => ?_, rfl, S, (hZ.imp fun _ _ => CompAt.mono up).snoc ⟨xn, dn, odn, rfl, .head _, .tail _ (.head _), hC⟩, by simp, idents_snoc hid h4 rfl, fun p hp => up p (s0 p hp), fun p hp b hb => ?_⟩
  · simp only [List.mem_cons] at hp
    rcases hp with rfl | rfl | rfl | rfl | rfl | hp
    · exact N _ m1
    · exact N _ m2
    · rw [← List.push_toArray]; exact N _ m3
    · exact N _ m4
    · exact N _ m5
    · exact N _ (sub p hp)
  · simp only [List.mem_cons] at hp
    rcases hp with rfl | rfl | rfl | rfl | hp
    · exact n1
    · exact n2
    · exact x1.1
    · exact d1.1
    · exact off p hp I (.head _)
  · by_cases e1 : y = Str.ofString "place"
    · rw [if_pos e1, e1]
    · rw [if_neg e1]; exact e y e1
  · simp only [List.mem_cons, List.not_mem_nil, or_false] at hp hb
    rcases hp with rfl | rfl | hp
    · rcases hb with rfl | rfl
      · exact x1.2.1
      · exact x1.2.2
    · rcases hb with rfl | rfl
      · exact d1.2.1
      · exact d1.2.2
    · exact off p hp b (by simp only [List.mem_cons, List.not_mem_nil, or_false]; exact .inr hb)
theorem for_frm {target : Expr} {body : List Stmt} {r : Addr} {t u v : Tok} {src lst : Addr} {o : Obj} {ny n : Nat} {rest all : Led}
    (hh : A.handled = none) (hr : IsRange s.heap r 0 (n : Int) 1 t u v) (hn : n ≤ 4) (F : Fr h₀ L s.heap m₀) (N : News h₀ L s.heap all) (m1 : (lst, listOf #[] ny) ∈ all) (m2 : (src, o) ∈ all) (sub : ∀ p ∈ rest, p ∈ all) (S : SrcObj o) (off : OwnOff rest [src]) (lo : AllLt lst rest)
    (hE : PassesOwn (model prog w) A env E) (ht : ∀ v, letOwnedTupleGo target (.ref s.heap.objs.size) v = pure ())
    (turn : ∀ (i : Nat) (I : Addr) (t : Tok) (up : Option Value) (o : Obj) (ys : List Value) (ny : Nat) (cps : List CDat) (Z : Led) (h : Heap) (tk : Nat), i < 4 → ys.length = i → cps.length = i → SrcObj o → Zip (CompAt Z) ys cps → idents cps → (∀ p ∈ rest, p ∈ Z) → OwnOff Z [I, src, lst] → @Ne Nat src I → @Ne Nat lst I →
      Fr h₀ L h (fun y => if y = Str.ofString "place" then up else m₀ y) → News h₀ L h ((I, itR ((i + 1 : Nat) : Int) ((n : Int) - ((i + 1 : Nat) : Int))) :: (src, o) :: (lst, listOf ys.toArray ny) :: Z) →
      wpAny (model prog w) A (assign target env (.int (i : Int) t)) (fun _ s₂ => wpAny (model prog w) A (execs body env) (FrmTurn h₀ L m₀ src lst rest n i I { s with heap := h, toks := tk } Q) E s₂) E { s with heap := h, toks := tk })
    (done : ∀ (up : Option Value) (o : Obj) (ys : List Value) (ny : Nat) (cps : List CDat) (Z : Led) (h : Heap) (tk : Nat), SrcObj o → Zip (CompAt Z) ys cps → cps.length = n → idents cps → (∀ p ∈ rest, p ∈ Z) → OwnOff Z [src, lst] →
      Fr h₀ L h (fun y => if y = Str.ofString "place" then up else m₀ y) → News h₀ L h ((src, o) :: (lst, listOf ys.toArray ny) :: Z) → Q .next { s with heap := h, toks := tk }) :
    wpAny (model prog w) A (pyIter (.ref r)) (fun it s₂ => codeAny (model prog w) A (.forLoop target it body [] env) (fun r s' => match r with | .ok f => Q f s' | .error e => cameBackBy (model prog w) A env E e s') s₂) E s := by
  refine for_any (FJ m₀ src lst rest) hh hr ?_ (by first | exact rangeSize_nat _ _ | rfl) F (news₀ := (src, o) :: (lst, listOf #[] ny) :: rest) (news_sub N fun p hp => ?_) ⟨m₀ (Str.ofString "place"), o, [], ny, [], rest, funext fun y => by split <;> simp_all, rfl, S, .nil, rfl, rfl, fun _ h => h, fun p hp b hb => ?_⟩ ?_ ?_ hE ht
  · exact small_one (by omega) (by omega) (by omega) (by omega)
  · simp only [List.mem_cons] at hp
    rcases hp with rfl | rfl | hp
    · exact m2
    · exact m1
    · exact sub p hp
  · simp only [List.mem_cons, List.not_mem_nil, or_false] at hb
    rcases hb with rfl | rfl
    · exact off p hp _ (List.mem_singleton.mpr rfl)
    · exact Nat.ne_of_lt (ktn_ltOf lo p hp)
  · rintro i I t m₁ news₁ h tk hi ⟨up, o, ys, ny, cps, Z, rfl, rfl, S, hZ, hl, hid, hs, hof⟩ offI F N
    refine turn i I t up o ys ny cps Z h tk (by omega) (by rw [hZ.len]; exact hl) hl S hZ hid hs (fun p hp b hb => ?_) (offI (src, o) (.head _)) (offI (lst, listOf ys.toArray ny) (.tail _ (.head _))) F N
    rcases List.mem_cons.mp hb with rfl | hb
    · exact offI p (.tail _ (.tail _ hp))
    · exact hof p hp b hb
  · rintro m₁ news₁ h tk ⟨up, o, ys, ny, cps, Z, rfl, rfl, S, hZ, hl, hid, hs, hof⟩ F N
    exact done up o ys ny cps Z h tk S hZ hl hid hs hof F N
end
theorem ln_FrmG_1 : True := by
  k_with "call ref" => (k_here; (with_reducible show wpAny _ _ (call (Value.ref 314) [Value.ref _, Value.int _ _]) _ _ _); k_dflt (refine' take_use ?Bz9 ?Fz9 ?Xz9 ?Nz9 ?Tz9 ?Kz9 ?Uz9 ?Sz9 ?t1z9 ?t2z9 ?dz9 ?uz9 ?_; (case Bz9 => k_asm); (case Fz9 => k_asm); (case Xz9 => k_asm); (case Nz9 => k_asm); (case Tz9 => k_asm); (case Kz9 => first | exact rfl | assumption); (case Uz9 => k_updF); (case Sz9 => assumption); (case t1z9 => first | decide | assumption | omega); (case t2z9 => first | decide | assumption | omega); (case dz9 => ktr_room); (case uz9 => ktr_units); k_whole); intro r' t' o' h' tk' hr0' hr1' hS' F' N'; (try dsimp only); (try k_fold))
  k_with "call ref" => (k_here; (with_reducible show wpAny _ _ (call (Value.ref 45) [Value.int _ _, Value.int _ _, Value.int _ _, Value.int _ _]) _ _ _); k_dflt (refine' comp_c _ ?Bz9 ?Fz9 ?Xz9 ?Nz9 ?Tz9 ?Kz9 ?dz9 ?uz9 ?_; (case Bz9 => k_asm); (case Fz9 => k_asm); (case Xz9 => k_asm); (case Nz9 => k_asm); (case Tz9 => k_asm); (case Kz9 => first | exact rfl | assumption); (case dz9 => ktr_room); (case uz9 => ktr_units); k_whole); intro x' dx' od' h' tk' hC' F' N' l1 l2; (try k_lt l1); (try k_lt2 l2); (try k_sweep); (try dsimp only); (try k_fold))
  k_with "call ref" => (k_here; (with_reducible show wpAny _ _ (call (Value.ref 321) [Value.ref _, Value.ref _]) _ _ _); first | (k_dflt (refine' one_int ?Iz9 ?Bz9 ?Fz9 ?Xz9 ?Nz9 ?Tz9 ?Kz9 ?qz9 ?Uz9 ?Sz9 ?t1z9 ?t2z9 ?dz9 ?uz9 ?_; (case Bz9 => k_asm); (case Fz9 => k_asm); (case Xz9 => k_asm); (case Nz9 => k_asm); (case Tz9 => k_asm); (case Kz9 => first | exact rfl | assumption); (case Iz9 => exact rfl); (case qz9 => k_ne); (case Uz9 => k_updF); (case Sz9 => assumption); (case t1z9 => exact Nat.zero_lt_succ _); (case t2z9 => exact Nat.le_of_ble_eq_true rfl); (case dz9 => ktr_room); (case uz9 => ktr_units); k_whole); intro x' t' o' h' tk' hx' hS' F' N'; (try dsimp only); (try k_fold); dsimp only [intsOf] at hx'; first | (obtain ⟨n9r3, e9r3, h19, h49⟩ := cntN hx'; clear hx'; subst e9r3) | skip) | (k_dflt (refine' one_str ?Iz9 ?Bz9 ?Fz9 ?Xz9 ?Nz9 ?Tz9 ?Kz9 ?qz9 ?Uz9 ?Sz9 ?t1z9 ?t2z9 ?dz9 ?uz9 ?_; (case Bz9 => k_asm); (case Fz9 => k_asm); (case Xz9 => k_asm); (case Nz9 => k_asm); (case Tz9 => k_asm); (case Kz9 => first | exact rfl | assumption); (case Iz9 => exact rfl); (case qz9 => k_ne); (case Uz9 => k_updF); (case Sz9 => assumption); (case t1z9 => exact Nat.zero_lt_succ _); (case t2z9 => exact Nat.le_of_ble_eq_true rfl); (case dz9 => ktr_room); (case uz9 => ktr_units); k_whole); intro x' t' o' h' tk' hx' hS' F' N'; (try dsimp only); (try k_fold); dsimp only [textsOf] at hx'))
  k_with "subl" => (intro p hp; (repeat (first | exact hp | refine List.Mem.tail _ ?_)))
  k_with "chain" => first | with_reducible assumption | exact and1 (by with_reducible assumption) | exact and2 (by with_reducible assumption) | exact and3 (by with_reducible assumption) | exact and4 (by with_reducible assumption)
  k_with "exec For Name Call cons nil" => (k_here; k_dflt (refine wpAny_For ?_))
  k_with "pyIter ref" => (k_here; (rename Fr _ _ _ _ => kF9r7); (rename News _ _ _ _ => kN9r7); k_dflt (refine' for_frm ?hhz9 ?hrz9 ?hnz9 kF9r7 kN9r7 ?m1z9 ?m2z9 ?subz9 ?Sz9 ?offz9 ?loz9 ?hEz9 ?htz9 ?turnz9 ?donez9; (case hhz9 => exact rfl); (case hrz9 => assumption); (case hnz9 => assumption); (case offz9 => assumption); (case m1z9 => k_mem); (case m2z9 => k_mem); (case subz9 => walk_at "subl"); (case Sz9 => assumption); (case loz9 => walk_at "chain"); (case htz9 => intro _; rfl); (case' turnz9 => intro i' I' t' up' o' ys' ny' cps' Z' h' tk' a1' a2' a3' a4' a5' a6' a7' a8' b1' b2' F' N'; (rename OwnOff _ [_] => o9r7; clear o9r7)); (case' donez9 => intro up' o' ys' ny' cps' Z' h' tk' a4' a5' a3' a6' a7' a8' F' N'; (rename OwnOff _ [_] => o9r7; clear o9r7)); k_whole))
  k_with "call builtin:list.append" => (k_here; (with_reducible show wpAny _ _ (call (Value.builtin _) [Value.ref _, _]) _ _ _); k_dflt (refine' append_K ?k1z9 ?k2z9 ?k3z9 ?_ ?zz9; (case k1z9 => k_asm); (case k2z9 => k_asm); (case k3z9 => k_upd); (case zz9 => (rw [List.size_toArray, sizeLine_eq]; omega)); k_whole); intro h' F' N'; (try k_sweep))
  k_with "ne3" => refine ⟨by k_ne, by k_ne, by k_ne⟩
  k_with "FrmTurn" => (k_here; (rename Fr _ _ _ _ => kF9r10); (rename News _ _ _ _ => kN9r10); k_dflt (refine' frm_end kF9r10 kN9r10 ?ez9 ?m1z9 ?m2z9 ?m3z9 ?m4z9 ?m5z9 ?subz9 ?Sz9 ?hZz9 ?hlz9 ?h4z9 ?hidz9 ?hCz9 ?s0z9 ?offz9 ?n1z9 ?n2z9 ?x1z9 ?d1z9; (case ez9 => (intro y h1; simp only [if_neg h1])); (case m1z9 => k_mem); (case m2z9 => k_mem); (case m3z9 => k_mem); (case m4z9 => k_mem); (case m5z9 => k_mem); (case hZz9 => assumption); (case offz9 => assumption); (case subz9 => walk_at "subl"); (case Sz9 => assumption); (case hlz9 => assumption); (case h4z9 => assumption); (case hidz9 => assumption); (case hCz9 => assumption); (case s0z9 => assumption); (case n1z9 => assumption); (case n2z9 => assumption); (case x1z9 => walk_at "ne3"); (case d1z9 => walk_at "ne3")))
  trivial
set_option maxHeartbeats 4000000 in
theorem frm_c (w : World) : ∀ {loose : List Str} {mean : ExcName → Option Value} {mg mb : Str → Option Value} {dp un : Nat} {gd : Option (List Code)} {cn : Str} {cs : Scope} {a : Addr} {ccd : Value} {cl : List (Str × Addr)} {outer : List Env} {A₀ : Around} {base h₀ : Heap} {L : Addr} {m : Str → Option Value} {s : Shared} {Q E : Value → Shared → Prop} {src : Addr} {o : Obj} {rest : Led},
    Below A₀ base outer h₀ → Fr h₀ L s.heap m → (Mine.kv.heap_1_1 w.params).In h₀ → News h₀ L s.heap ((src, o) :: rest) → Top Mine.kv.view_1_2 loose mean mg mb h₀ → cs.kind = .function → OwnOff rest [src] → SrcObj o → dp + 10 < recursionLimit → un + 100 < cLine →
    (∀ (x dx lst : Addr) (kind : Str) (p h wd n : Int) (od o' : Obj) (ys : List Value) (ny : Nat) (cps : List CDat) (Z : Led) (h' : Heap) (tk' : Nat), FrameD od kind p h wd lst n → kind ∈ kinds → n ∈ [(2 : Int), 3] → 1 ≤ cps.length → cps.length ≤ 4 → idents cps → Zip (CompAt Z) ys cps → (∀ p ∈ rest, p ∈ Z) → OwnOff Z [src, lst] → @Ne Nat x src → @Ne Nat dx src → @Ne Nat lst src → SrcObj o' → Fr h₀ L h' m → News h₀ L h' ((x, instObj 111 dx) :: (dx, od) :: (src, o') :: (lst, listOf ys.toArray ny) :: Z) → Q (.ref x) { s with heap := h', toks := tk' }) →
    wpAny (model PySem.Challenge.rw_ok0144_01.row.prog w) (ktrTop dp un gd cn cs L a ccd cl outer) (call (.ref 328) [.ref src]) Q E s := by
  k_fill
  intro loose mean mg mb dp un gd cn cs a ccd cl outer A₀ base h₀ L m s Q E src o rest B F X N T hk off hS hd hu hret
  refine wpAny_call ?_
  k_dflt cell_enter
  k_steps
  (rename Fr _ _ _ _ => kF9); (rename News _ _ _ _ => kN9)
  refine' hret _ _ _ _ _ _ _ _ _ _ _ _ _ _ _ _ ⟨_, _, _, _, _, _, _, _, _, _, _, _, _, _, _, _, _, _, rfl⟩ ?k1 ?k2 ?k3 ?k4 ?k5 ?k6 ?k7 ?k8 ?n1 ?n2 ?n3 ?S kF9 kN9
  (case k6 => assumption)
  (case k7 => assumption)
  (case k8 => assumption)
  (case k5 => assumption)
  (case k1 => assumption)
  (case k2 => assumption)
  (case S => assumption)
  (case k3 => omega)
  (case k4 => omega)
  (case n1 => k_ne)
  (case n2 => k_ne)
  (case n3 => k_ne)
theorem frm_g {w : World} {loose : List Str} {mean : ExcName → Option Value} {mg mb : Str → Option Value} {dp un : Nat} {gd : Option (List Code)} {cn : Str} {cs : Scope} {a : Addr} {ccd : Value} {cl : List (Str × Addr)} {outer : List Env} {A₀ : Around} {base h₀ : Heap} {L : Addr} {m : Str → Option Value} {s : Shared} {Q E : Value → Shared → Prop} {src : Addr} {o : Obj} {rest : Led} (B : Below A₀ base outer h₀) (F : Fr h₀ L s.heap m) (X : (Mine.kv.heap_1_1 w.params).In h₀) (N : News h₀ L s.heap ((src, o) :: rest)) (T : Top Mine.kv.view_1_2 loose mean mg mb h₀) (hk : cs.kind = .function)
    (off : OwnOff rest [src]) (S : SrcObj o) (hd : dp + 10 < recursionLimit) (hu : un + 100 < cLine)
    (ret : ∀ (x : Addr) (rest' : Led) (f : FDat) (cps : List CDat) (o' : Obj) (h' : Heap) (tk' : Nat), Grow rest rest' src → FrameAt rest' x f cps → f.kind ∈ kinds → f.n ∈ [(2 : Int), 3] → 1 ≤ cps.length → cps.length ≤ 4 → idents cps → SrcObj o' → Fr h₀ L h' m → News h₀ L h' ((src, o') :: rest') → Q (.ref x) { s with heap := h', toks := tk' }) :
    wpAny (model PySem.Challenge.rw_ok0144_01.row.prog w) (ktrTop dp un gd cn cs L a ccd cl outer) (call (.ref 328) [.ref src]) Q E s := by
  refine frm_c w B F X N T hk off S hd hu ?_
  intro x dx lst kind p h wd n od o' ys ny cps Z h' tk' hF hk hn h1 h4 hid hZ sub offZ n1 n2 n3 S' F' N'
  have up : ∀ p ∈ Z, p ∈ (x, instObj 111 dx) :: (dx, od) :: (lst, listOf ys.toArray ny) :: Z := fun p hp => .tail _ (.tail _ (.tail _ hp))
  refine ret x ((x, instObj 111 dx) :: (dx, od) :: (lst, listOf ys.toArray ny) :: Z) ⟨kind, p, h, wd, n⟩ cps o' h' tk' ⟨fun p hp => up p (sub p hp), fun p hp b hb => ?_⟩ ⟨dx, od, lst, ny, ys, .head _, .tail _ (.head _), hF, .tail _ (.tail _ (.head _)), hZ.imp fun _ _ => CompAt.mono up⟩ hk hn h1 h4 hid S' F' (news_law N' (by k_mem) fun p hp => ?_)
  · rw [List.mem_singleton.mp hb]
    simp only [List.mem_cons] at hp
    rcases hp with rfl | rfl | rfl | hp
    · exact n1
    · exact n2
    · exact n3
    · exact offZ p hp src (.head _)
  · simp only [List.mem_cons] at hp ⊢
    rcases hp with hp | hp | hp | hp <;> simp only [hp, true_or, or_true]
end FrmG
section RowG
theorem ln_RowG_0 : True := by
  k_with_none
  w_top off
  trivial
open PyProof.Rows.LCg
section
variable {prog : Program} {w : World} {A : Around} {E : Value → Shared → Prop} {s : Shared} {h₀ : Heap} {L : Addr} {m : Str → Option Value} {env : Env}
/-- a comprehension by an invariant of what its turns make -/
theorem comp_inv {elt : Expr} {x : Str} {scope : Scope} {cl : List (Str × Addr)} {S : Led → Prop} {P : Nat → Value → Prop} {Fin : List Value → Led → Prop} {n : Nat} (pas : Led) (J : Nat → List Value → Led → Prop) (hS : ∀ Z, S (Z ++ pas)) (j0 : J 0 [] [])
    (turn : ∀ i v I oI C oC D m₂ ys Z h tk (E' : Value → Shared → Prop), i < n → P i v → J i ys Z → NsObj oC m₂ → m₂ x = some v → Fr h₀ L h m → News h₀ L h ((I, oI) :: (C, oC) :: (D, lst ys) :: (Z ++ pas)) → Off3 I C D (Z ++ pas) → ((@Ne Nat I C) ∧ (@Ne Nat I D) ∧ (@Ne Nat C D)) →
      wpAny (model prog w) A (eval elt (compEnvC scope cl C env)) (GrowEnd h₀ L m { s with heap := h, toks := tk } I oI C oC D (lst ys) (Z ++ pas) Z (fun N y => J (i + 1) (ys ++ [y]) N)) E' { s with heap := h, toks := tk })
    (fin : ∀ ys Z, J n ys Z → Fin ys (Z ++ pas)) :
    CompRest prog w A h₀ L m env elt x scope cl s S P Fin n 0 [] pas := by
  have key : ∀ k i ys Z, i + k = n → J i ys Z → CompRest prog w A h₀ L m env elt x scope cl s S P Fin k i ys (Z ++ pas) := by
    intro k
    induction k with
    | zero =>
      intro i ys Z e g
      have e' : i = n := by omega
      subst e'
      exact CompRest.zero (fin ys Z g)
    | succ k ih =>
      intro i ys Z e g
      refine CompRest.succ fun v I oI C oC D m₂ h tk E' hP hC hx F N off ne => ?_
      refine wpAny_mono (turn i v I oI C oC D m₂ ys Z h tk E' (by omega) hP g hC hx F N off ne) (fun y s₂ hg => ?_) fun _ _ e => e
      obtain ⟨h', tk', W, rfl, F', N', fw, pa⟩ := hg
      have ew : W ++ (Z ++ pas) = (W ++ Z) ++ pas := (List.append_assoc _ _ _).symm
      refine ⟨h', tk', W ++ (Z ++ pas), rfl, F', N', Off3.of fun p hp => ?_, ?_, ?_⟩
      · rcases List.mem_append.mp hp with hp | hp
        · exact (fw p hp).1
        · exact off.mem p hp
      · rw [ew]; exact hS _
      · rw [ew]; exact ih (i + 1) (ys ++ [y]) (W ++ Z) (by omega) pa
  exact key n 0 [] [] (by omega) j0
end
/-- the pieces of a list of made lists, the newest ahead -/
inductive DueR : Led → List Value → List CDat → Prop
  | nil : DueR [] [] []
  | snoc {e : Addr} {t1 t2 t3 t4 : Tok} {n : Nat} {E : Led} {vs : List Value} {cs : List CDat} {c : CDat} : (∀ p ∈ E, p.1 ≠ e) → DueR E vs cs → DueR ((e, listOf #[.int c.i t1, .int c.a t2, .int c.d t3, .int c.q t4] n) :: E) (vs ++ [.ref e]) (cs ++ [c])
theorem DueAt.snoc {e : Addr} {t1 t2 t3 t4 : Tok} {n : Nat} {E : Led} {vs : List Value} {cs : List CDat} {c : CDat} (h : DueAt E vs cs) (k : ∀ p ∈ E, p.1 ≠ e) : DueAt (E ++ [(e, listOf #[.int c.i t1, .int c.a t2, .int c.d t3, .int c.q t4] n)]) (vs ++ [.ref e]) (cs ++ [c]) := by
  induction h with
  | nil => exact .cons (fun p hp => nomatch hp) .nil
  | @cons e0 _ _ _ _ _ _ _ _ _ a _ ih =>
    refine .cons (fun p hp => ?_) (ih fun p hp => k p (.tail _ hp))
    rcases List.mem_append.mp hp with hp | hp
    · exact a p hp
    · rw [List.mem_singleton.mp hp]; exact (k _ (.head _)).symm
theorem DueR.due {E : Led} {vs : List Value} {cs : List CDat} (h : DueR E vs cs) : DueAt E.reverse vs cs := by
  induction h with
  | nil => exact .nil
  | snoc k _ ih => rw [List.reverse_cons]; exact ih.snoc fun p hp => k p (List.mem_reverse.mp hp)
/-- amid the comprehension -/
structure RowTurn (pas Z : Led) (cps : List CDat) (i : Nat) (ys : List Value) (nw : Led) : Prop where
  due : DueR Z ys (cps.take i)
  fresh : ∀ p ∈ Z, ∀ q ∈ pas, q.1 ≠ p.1
  eq : nw = Z ++ pas
  lt : i < cps.length
/-- behind it -/
structure RowFin (pas E : Led) (cps : List CDat) (ys : List Value) (D : Addr) (Y : Led) : Prop where
  due : DueAt E ys cps
  fresh : ∀ p ∈ E, ∀ q ∈ pas, q.1 ≠ p.1
  eq : Y = E ++ pas
  off : ∀ p ∈ Y, p.1 ≠ D
section
variable {prog : Program} {w : World} {A : Around} {E : Value → Shared → Prop} {s : Shared} {h₀ : Heap} {L : Addr} {m : Str → Option Value} {env : Env}
def RowElt (h₀ : Heap) (L : Addr) (m : Str → Option Value) (s₁ : Shared) (I : Addr) (oI : Obj) (C : Addr) (oC : Obj) (D : Addr) (pas Z : Led) (cps : List CDat) (i : Nat) (ys : List Value) (nw : Led) (y : Value) (s₂ : Shared) : Prop :=
  GrowEnd h₀ L m s₁ I oI C oC D (lst ys) nw Z (fun N y => DueR N (ys ++ [y]) (cps.take (i + 1)) ∧ ∀ p ∈ N, ∀ q ∈ pas, q.1 ≠ p.1) y s₂
theorem row_elt {s₁ : Shared} {I C D e : Addr} {oI oC : Obj} {pas Z nw : Led} {cps : List CDat} {i n tk : Nat} {ys : List Value} {t1 t2 t3 t4 : Tok} {h' : Heap} (r : RowTurn pas Z cps i ys nw) (F : Fr h₀ L h' m)
    (N : News h₀ L h' ((e, listOf #[.int (cps.getD i dflt).i t1, .int (cps.getD i dflt).a t2, .int (cps.getD i dflt).d t3, .int (cps.getD i dflt).q t4] n) :: (I, oI) :: (C, oC) :: (D, lst ys) :: nw)) (l1 : @LT.lt Nat _ I e) (l2 : @LT.lt Nat _ C e) (l3 : @LT.lt Nat _ D e) (l4 : AllLt e nw) :
    RowElt h₀ L m s₁ I oI C oC D pas Z cps i ys nw (.ref e) { s₁ with heap := h', toks := tk } := by
  have e1 := r.eq
  subst e1
  have hg : cps.take (i + 1) = cps.take i ++ [cps.getD i dflt] := by
    rw [List.take_add_one, List.getD_eq_getElem?_getD, List.getElem?_eq_getElem r.lt]; rfl
  refine ⟨h', tk, [(e, listOf #[.int (cps.getD i dflt).i t1, .int (cps.getD i dflt).a t2, .int (cps.getD i dflt).d t3, .int (cps.getD i dflt).q t4] n)], rfl, F, news_sub N fun p hp => ?_, fun p hp => ?_, ?_, fun p hp q hq => ?_⟩
  · simp only [List.mem_cons, List.cons_append, List.nil_append] at hp ⊢
    rcases hp with hp | hp | hp | hp | hp <;> simp only [hp, true_or, or_true]
  · rw [List.mem_singleton.mp hp]
    exact ⟨⟨Nat.ne_of_gt l1, Nat.ne_of_gt l2, Nat.ne_of_gt l3⟩, fun q hq => Nat.ne_of_lt (ktn_ltOf l4 q hq)⟩
  · rw [hg]
    exact .snoc (fun p hp => Nat.ne_of_lt (ktn_ltOf l4 p (List.mem_append_left _ hp))) r.due
  · rcases List.mem_cons.mp hp with rfl | hp
    · exact Nat.ne_of_lt (ktn_ltOf l4 q (List.mem_append_right _ hq))
    · exact r.fresh p hp q hq
theorem mem_src {elt : Expr} {x : Str} {scope : Scope} {cl : List (Str × Addr)} {l : Addr} {nl : Nat} {all : Led} {vs : List Value} {cps : List CDat} {yy : Str} {Q : Flow → Shared → Prop} {keep : Led}
    (hh : A.handled = none) (F : Fr h₀ L s.heap m) (N : News h₀ L s.heap all) (hm : (l, listOf vs.toArray nl) ∈ all) (hZ : Zip (CompAt all) vs cps) (h4 : cps.length ≤ 4) (hk : SubL keep all)
    (turn : ∀ (i : Nat) (xa d : Addr) (H1 H2 H3 H4 : Int) (t1 t2 t3 t4 u1 u2 u3 u4 : Tok) (n : Nat) I oI C oC D m₂ ys Z nw h tk (E' : Value → Shared → Prop), RowTurn all Z cps i ys nw → NsObj oC m₂ → m₂ x = some (.ref xa) → (xa, instObj 45 d) ∈ nw → (d, dictOf [⟨H1, .str (Str.ofString "ident") t1, .int (cps.getD i dflt).i u1⟩, ⟨H2, .str (Str.ofString "across") t2, .int (cps.getD i dflt).a u2⟩, ⟨H3, .str (Str.ofString "down") t3, .int (cps.getD i dflt).d u3⟩, ⟨H4, .str (Str.ofString "quant") t4, .int (cps.getD i dflt).q u4⟩] n) ∈ nw → Fr h₀ L h m → News h₀ L h ((I, oI) :: (C, oC) :: (D, lst ys) :: nw) → ((@Ne Nat I C) ∧ (@Ne Nat I D) ∧ (@Ne Nat C D)) →
      wpAny (model prog w) A (eval elt (compEnvC scope cl C env)) (RowElt h₀ L m { s with heap := h, toks := tk } I oI C oC D all Z cps i ys nw) E' { s with heap := h, toks := tk })
    (fin : ∀ (D : Addr) (ys : List Value) (ny : Nat) (Es Y : Led) (h : Heap) (tk : Nat), RowFin all Es cps ys D Y → SubL keep Y → Fr h₀ L h (fun z => if z = yy then some (.ref D) else m z) → News h₀ L h ((D, listOf ys.toArray ny) :: Y) → Q .next { s with heap := h, toks := tk }) :
    CompSrc prog w A h₀ L m env elt x scope cl (fun s₂ => FinA h₀ L m s₂ yy Q) (.ref l) s := by
  refine CompSrc.ledger hh F N hm (by rw [List.size_toArray, hZ.len, sizeLine_eq]; omega) fun g => ?_
  refine comp_inv all (fun i ys Z => DueR Z ys (cps.take i) ∧ ∀ p ∈ Z, ∀ q ∈ all, q.1 ≠ p.1) (fun Z => .inr ⟨_, List.mem_append_right _ hm, rfl, _, rfl⟩) ⟨.nil, fun p hp => nomatch hp⟩ (fun i v I oI C oC D m₂ ys Z h tk E' hi hP hJ hC hx F N off ne => ?_) fun ys Z hJ D h tk F N o1 => ?_
  · have hi' : i < cps.length := by rw [← hZ.len]; simpa using hi
    obtain ⟨v', e, xa, d, od, rfl, a, b, c⟩ := hZ.at i hi'
    have ev : v = .ref xa := by
      have h1 : vs.toArray[i]? = some v := hP
      rw [List.getElem?_toArray, e] at h1
      exact (Option.some.inj h1).symm
    subst ev
    have hg : cps.getD i dflt = cps[i] := by rw [List.getD_eq_getElem?_getD, List.getElem?_eq_getElem hi']; rfl
    obtain ⟨H1, H2, H3, H4, t1, t2, t3, t4, u1, u2, u3, u4, n, rfl⟩ := c
    have T := turn i xa d H1 H2 H3 H4 t1 t2 t3 t4 u1 u2 u3 u4 n I oI C oC D m₂ ys Z (Z ++ all) h tk E' ⟨hJ.1, hJ.2, rfl, hi'⟩ hC hx (List.mem_append_right _ a)
    rw [hg] at T
    exact T (List.mem_append_right _ b) F N ne
  · have hl : cps.take vs.toArray.size = cps := by rw [List.size_toArray, hZ.len, List.take_length]
    rw [hl] at hJ
    have hsub : ∀ p, p ∈ Z.reverse ++ all ↔ p ∈ Z ++ all := fun p => by simp only [List.mem_append, List.mem_reverse]
    refine fin D ys ys.length Z.reverse (Z.reverse ++ all) h tk ⟨hJ.1.due, fun p hp => hJ.2 p (List.mem_reverse.mp hp), rfl, fun p hp => off1_at o1 (o := p.2) ((hsub p).mp hp)⟩ (SubL.up (fun (p : Addr × Obj) hp => List.mem_append_right _ hp) hk) F (fun (p : Addr × Obj) hp => ?_)
    rcases List.mem_cons.mp hp with rfl | hp
    · exact N _ (.head _)
    · exact N p (.tail _ ((hsub p).mp hp))
end
local macro_rules | `(tactic| k_mem) => `(tactic| (refine memOf ?_; ktr_member))
theorem ln_RowG_1 : True := by
  k_with "eval ListComp" => (k_here; k_dflt (refine LCg.ListComp_U (F₀ := by k_asm) (by with_unfolding_all rfl) (by decide) (by rfl) (by decide) (by rfl) ?_))
  k_with "CompSrc" => (k_here; (rename Zip _ _ _ => hZ9r2); (rename SubL _ _ => hk9r2); k_dflt (refine' mem_src ?hhz9 ?Fz9 ?Nz9 ?mz9 hZ9r2 ?h4z9 hk9r2 ?_ ?_; (case hhz9 => exact rfl); (case Fz9 => k_asm); (case Nz9 => k_asm); (case mz9 => k_mem); (case h4z9 => assumption); ((intro i' xa' d' H1' H2' H3' H4' t1' t2' t3' t4' u1' u2' u3' u4' n' I' oI' C' oC' D' m' ys' Z' nw' h' tk' E' rt' hC' hx' m1' m2' F' N' ne'; (try k_sweep))); rotate_left; ((intro D' ys' ny' Es' Y' h' tk' rf' hk' F' N'; (have s1' := hk'.1); (have s2' := hk'.2.1); (try k_sweep))); rotate_left))
  k_with "RowElt" => (k_here; (rename Fr _ _ _ _ => kF9r3); (rename News _ _ _ _ => kN9r3); (rename RowTurn _ _ _ _ _ _ => rt9r3); k_dflt (exact row_elt rt9r3 kF9r3 kN9r3 (by omega) (by omega) (by omega) (by first | with_reducible assumption | exact and1 (by with_reducible assumption) | exact and2 (by with_reducible assumption) | exact and3 (by with_reducible assumption))))
  trivial
set_option maxHeartbeats 4000000 in
theorem row_c (w : World) : ∀ {loose : List Str} {mean : ExcName → Option Value} {mg mb : Str → Option Value} {dp un : Nat} {gd : Option (List Code)} {cn : Str} {cs : Scope} {a : Addr} {ccd : Value} {cl : List (Str × Addr)} {outer : List Env} {A₀ : Around} {base h₀ : Heap} {L : Addr} {m : Str → Option Value} {s : Shared} {Q E : Value → Shared → Prop} {x dx lst : Addr} {f : FDat} {cps : List CDat} {od : Obj} {nl : Nat} {vs : List Value} {news : Led},
    Below A₀ base outer h₀ → Fr h₀ L s.heap m → (Mine.kv.heap_1_1 w.params).In h₀ → News h₀ L s.heap (news) → Top Mine.kv.view_1_2 loose mean mg mb h₀ → cs.kind = .function → SubL [(x, instObj 111 dx), (dx, od)] news → FrameD od f.kind f.p f.h f.w lst f.n → (lst, listOf vs.toArray nl) ∈ news → Zip (CompAt news) vs cps → cps.length ≤ 4 → dp + 10 < recursionLimit → un + 100 < cLine →
    (∀ (r D : Addr) (t1 t2 t3 t4 t5 : Tok) (ny : Nat) (ys : List Value) (Es Y : Led) (h' : Heap) (tk' : Nat), RowFin news Es cps ys D Y → @LT.lt Nat _ D r → AllLt r Y → Fr h₀ L h' m → News h₀ L h' ((r, listOf #[.str f.kind t1, .int f.p t2, .int f.h t3, .int f.w t4, .int f.n t5, .ref D] 0) :: (D, listOf ys.toArray ny) :: Y) → Q (.ref r) { s with heap := h', toks := tk' }) →
    wpAny (model PySem.Challenge.rw_ok0144_01.row.prog w) (ktrTop dp un gd cn cs L a ccd cl outer) (call (.ref 333) [.ref x]) Q E s := by
  k_fill
  intro loose mean mg mb dp un gd cn cs a ccd cl outer A₀ base h₀ L m s Q E x dx lst f cps od nl vs news B F X N T hk hsub hF m3 hZ h4 hd hu hret
  obtain ⟨_, _, _, _, _, _, _, _, _, _, _, _, _, _, _, _, _, _, rfl⟩ := hF
  have m1 := hsub.1
  have m2 := hsub.2.1
  refine wpAny_call ?_
  k_dflt cell_enter
  k_steps
  (rename Fr _ _ _ _ => kF9); (rename News _ _ _ _ => kN9); (rename RowFin _ _ _ _ _ _ => rf9)
  refine' hret _ _ _ _ _ _ _ _ _ _ _ _ _ rf9 ?l1 ?l2 kF9 kN9
  (case l1 => omega)
  (case l2 => first | with_reducible assumption | exact and1 (by with_reducible assumption) | exact and2 (by with_reducible assumption))
theorem row_g {w : World} {loose : List Str} {mean : ExcName → Option Value} {mg mb : Str → Option Value} {dp un : Nat} {gd : Option (List Code)} {cn : Str} {cs : Scope} {a : Addr} {ccd : Value} {cl : List (Str × Addr)} {outer : List Env} {A₀ : Around} {base h₀ : Heap} {L : Addr} {m : Str → Option Value} {s : Shared} {Q E : Value → Shared → Prop} {src : Addr} {o : Obj} {rest l : Led} {x : Addr} {f : FDat} {cps : List CDat} (B : Below A₀ base outer h₀) (F : Fr h₀ L s.heap m) (X : (Mine.kv.heap_1_1 w.params).In h₀) (N : News h₀ L s.heap ((src, o) :: rest)) (T : Top Mine.kv.view_1_2 loose mean mg mb h₀) (hk : cs.kind = .function)
    (off : OwnOff rest [src]) (fr0 : FrameAt l x f cps) (sub : ∀ p ∈ l, p ∈ rest) (h1 : 1 ≤ cps.length) (h4 : cps.length ≤ 4) (hd : dp + 10 < recursionLimit) (hu : un + 100 < cLine)
    (ret : ∀ (r : Addr) (rest' : Led) (h' : Heap) (tk' : Nat), RowNew src rest rest' r f cps → Grow rest rest' src → Fr h₀ L h' m → News h₀ L h' ((src, o) :: rest') → Q (.ref r) { s with heap := h', toks := tk' }) :
    wpAny (model PySem.Challenge.rw_ok0144_01.row.prog w) (ktrTop dp un gd cn cs L a ccd cl outer) (call (.ref 333) [.ref x]) Q E s := by
  have fr := fr0.mono sub
  obtain ⟨dx, od, lst, nl, vs, m1, m2, hF, m3, Z⟩ := fr
  have up : ∀ p ∈ rest, p ∈ (src, o) :: rest := fun p hp => .tail _ hp
  refine row_c w B F X N T hk ⟨up _ m1, up _ m2, trivial⟩ hF (up _ m3) (Z.imp fun _ _ => CompAt.mono up) h4 hd hu ?_
  intro r D t1 t2 t3 t4 t5 ny ys Es Y h' tk' rf ld lr F' N'
  have eY := rf.eq
  subst eY
  have lt : ∀ p ∈ Es ++ (src, o) :: rest, p.1 ≠ r := fun p hp => Nat.ne_of_lt (ktn_ltOf lr p hp)
  have inr : ∀ p ∈ rest, p ∈ Es ++ (src, o) :: rest := fun p hp => List.mem_append_right _ (.tail _ hp)
  have ins : (src, o) ∈ Es ++ (src, o) :: rest := List.mem_append_right _ (.head _)
  have hR : RowNew src rest ((r, listOf #[.str f.kind t1, .int f.p t2, .int f.h t3, .int f.w t4, .int f.n t5, .ref D] 0) :: (D, listOf ys.toArray ny) :: (Es ++ rest)) r f cps :=
    ⟨D, Es, ys, t1, t2, t3, t4, t5, 0, ny, rfl, rf.due, (lt _ ins).symm, (rf.off _ ins).symm, Nat.ne_of_lt ld, fun p hp => ⟨lt p (inr p hp), rf.off p (inr p hp)⟩,
      fun p hp => ⟨(rf.fresh p hp (src, o) (.head _)).symm, lt p (List.mem_append_left _ hp), rf.off p (List.mem_append_left _ hp), fun q hq => rf.fresh p hp q (.tail _ hq)⟩⟩
  refine ret r _ h' tk' hR (hR.grow off) F' (news_law N' (.tail _ (.tail _ ins)) fun p hp => ?_)
  simp only [List.mem_cons, List.mem_append] at hp ⊢
  rcases hp with hp | hp | hp | hp <;> simp only [hp, true_or, or_true]
end RowG
section DivG
theorem ln_DivG_0 : True := by
  k_with_none
  w_top off
  trivial
/-- between the turns of the loop that makes the divisors -/
def DJ (w : World) (m₀ : Str → Option Value) (src d : Addr) (rest₀ : Led) (i : Nat) (m₁ : Str → Option Value) (news₁ : Led) : Prop :=
  ∃ (up uf ul ur : Option Value) (o od : Obj) (rs : List Value) (R : List (List Int)) (Z : Led),
    m₁ = (fun y => if y = Str.ofString "row" then ur else if y = Str.ofString "last" then ul else if y = Str.ofString "first" then uf else if y = Str.ofString "place" then up else m₀ y) ∧ news₁ = (src, o) :: (d, od) :: Z ∧ SrcObj o ∧
    od.IsDictOf (PySem.intKind PySem.Challenge.rw_ok0144_01.row.prog w) (numd 0 rs) ∧ Zip (RowV Z) rs R ∧ R.length = i ∧ (∀ p ∈ rest₀, p ∈ Z) ∧ OwnOff Z [src, d]
theorem numd_lt : ∀ (j : Nat) (vs : List Value) (k : Int), ((j + vs.length : Nat) : Int) ≤ k → (numd j vs).any (fun kv => kv.1 = k) = false
  | _, [], _, _ => rfl
  | j, v :: r, k, h => by
    have h' : (numd (j + 1) r).any (fun kv => kv.1 = k) = false := numd_lt (j + 1) r k (by rw [List.length_cons] at h; omega)
    have ne : ((j : Nat) : Int) ≠ k := by rw [List.length_cons] at h; omega
    simp [numd, List.any_cons, h', ne]
theorem numd_snoc : ∀ (j : Nat) (vs : List Value) (v : Value), numd j (vs ++ [v]) = numd j vs ++ [(((j + vs.length : Nat) : Int), v)]
  | j, [], v => by simp [numd]
  | j, x :: r, v => by
    rw [List.cons_append, numd, numd_snoc (j + 1) r v, numd, List.cons_append, List.length_cons]
    rw [show j + 1 + r.length = j + (r.length + 1) by omega]
theorem stored_numd {vs : List Value} {v : Value} {i : Nat} (h : vs.length = i) : PySem.stored (numd 0 vs) (i : Int) v = numd 0 (vs ++ [v]) := by
  subst h
  unfold PySem.stored
  rw [numd_lt 0 vs _ (by simp), if_neg (by simp), numd_snoc, Nat.zero_add]
section
variable {prog : Program} {w : World} {A : Around} {E : Value → Shared → Prop} {s : Shared} {env : Env} {h₀ : Heap} {L : Addr} {m₀ : Str → Option Value} {Q : Flow → Shared → Prop}
def DivTurn (w : World) (h₀ : Heap) (L : Addr) (m₀ : Str → Option Value) (src d : Addr) (rest₀ : Led) (n i : Nat) (I : Addr) (s₁ : Shared) (Q : Flow → Shared → Prop) (f : Flow) (s₂ : Shared) : Prop :=
  TurnPost h₀ L (DJ w m₀ src d rest₀ (i + 1)) I (itR ((i + 1 : Nat) : Int) ((n : Int) - ((i + 1 : Nat) : Int))) s₁ Q f s₂
/-- what the dict holds ahead of a turn -/
structure DivMark (Z : Led) (kvs : List (Int × Value)) (i : Nat) : Prop where
  ex : ∃ rs R, kvs = numd 0 rs ∧ Zip (RowV Z) rs R ∧ R.length = i
theorem div_end {src d I ρ : Addr} {o od oρ : Obj} {rest₀ all Z : Led} {n i : Nat} {s₁ : Shared} {h : Heap} {tk : Nat} {m' : Str → Option Value} {kvs : List (Int × Value)} {ns : List Int}
    (F : Fr h₀ L h m') (N : News h₀ L h all) (hM : DivMark Z kvs i) (e : ∀ y, y ≠ Str.ofString "row" → y ≠ Str.ofString "last" → y ≠ Str.ofString "first" → y ≠ Str.ofString "place" → m' y = m₀ y) (m1 : (I, itR ((i + 1 : Nat) : Int) ((n : Int) - ((i + 1 : Nat) : Int))) ∈ all) (m2 : (src, o) ∈ all) (m3 : (d, od) ∈ all)
    (m4 : (ρ, oρ) ∈ all) (sub : ∀ p ∈ Z, p ∈ all) (S : SrcObj o) (hR : RowO oρ ns) (hd : od.IsDictOf (PySem.intKind PySem.Challenge.rw_ok0144_01.row.prog w) (PySem.stored kvs (i : Int) (.ref ρ))) (s0 : ∀ p ∈ rest₀, p ∈ Z)
    (off : OwnOff Z [I, src, d]) (n1 : src ≠ I) (n2 : d ≠ I) (x1 : ρ ≠ I ∧ ρ ≠ src ∧ ρ ≠ d) :
    DivTurn w h₀ L m₀ src d rest₀ n i I s₁ Q .next { s₁ with heap := h, toks := tk } := by
  obtain ⟨rs, R, rfl, hZ, hl⟩ := hM.ex
  have up : ∀ p ∈ Z, p ∈ (ρ, oρ) :: Z := fun p hp => .tail _ hp
  rw [stored_numd (by rw [hZ.len]; exact hl)] at hd
  refine ⟨h, tk, m', (src, o) :: (d, od) :: (ρ, oρ) :: Z, rfl, F, fun p hp => ?_, fun p hp => ?_, m' (Str.ofString "place"), m' (Str.ofString "first"), m' (Str.ofString "last"), m' (Str.ofString "row"), o, od, rs ++ [Value.ref ρ], R ++ [ns], (ρ, oρ) :: Z, funext fun y => ?_, rfl, S, hd, (hZ.imp fun _ _ => RowV.mono up).snoc ⟨ρ, oρ, rfl, .head _, hR⟩, by simp [hl], fun p hp => up p (s0 p hp), fun p hp b hb => ?_⟩
  · simp only [List.mem_cons] at hp
    rcases hp with rfl | rfl | rfl | rfl | hp
    · exact N _ m1
    · exact N _ m2
    · exact N _ m3
    · exact N _ m4
    · exact N _ (sub p hp)
  · simp only [List.mem_cons] at hp
    rcases hp with rfl | rfl | rfl | hp
    · exact n1
    · exact n2
    · exact x1.1
    · exact off p hp I (.head _)
  · by_cases e1 : y = Str.ofString "row"
    · rw [if_pos e1, e1]
    · rw [if_neg e1]
      by_cases e2 : y = Str.ofString "last"
      · rw [if_pos e2, e2]
      · rw [if_neg e2]
        by_cases e3 : y = Str.ofString "first"
        · rw [if_pos e3, e3]
        · rw [if_neg e3]
          by_cases e4 : y = Str.ofString "place"
          · rw [if_pos e4, e4]
          · rw [if_neg e4]; exact e y e1 e2 e3 e4
  · simp only [List.mem_cons, List.not_mem_nil, or_false] at hp hb
    rcases hp with rfl | hp
    · rcases hb with rfl | rfl
      · exact x1.2.1
      · exact x1.2.2
    · exact off p hp b (by simp only [List.mem_cons, List.not_mem_nil, or_false]; exact .inr hb)
theorem for_div {target : Expr} {body : List Stmt} {r : Addr} {t u v : Tok} {src d : Addr} {o od : Obj} {n : Nat} {rest all keep : Led}
    (hh : A.handled = none) (hr : IsRange s.heap r 0 (n : Int) 1 t u v) (hn : n ≤ 4) (F : Fr h₀ L s.heap m₀) (N : News h₀ L s.heap all) (m1 : (d, od) ∈ all) (m2 : (src, o) ∈ all) (sub : ∀ p ∈ rest, p ∈ all) (hd : od.IsDictOf (PySem.intKind PySem.Challenge.rw_ok0144_01.row.prog w) []) (S : SrcObj o) (off : OwnOff rest [src]) (lo : AllLt d rest) (hk : SubL keep rest)
    (hE : PassesOwn (model prog w) A env E) (ht : ∀ v, letOwnedTupleGo target (.ref s.heap.objs.size) v = pure ())
    (turn : ∀ (i : Nat) (I : Addr) (t : Tok) (up uf ul ur : Option Value) (o od : Obj) (kvs : List (Int × Value)) (Z : Led) (h : Heap) (tk : Nat), i < 4 → kvs.length = i → SrcObj o → od.IsDictOf (PySem.intKind PySem.Challenge.rw_ok0144_01.row.prog w) kvs → DivMark Z kvs i → (∀ p ∈ rest, p ∈ Z) → OwnOff Z [I, src, d] → @Ne Nat src I → @Ne Nat d I → SubL keep Z →
      Fr h₀ L h (fun y => if y = Str.ofString "row" then ur else if y = Str.ofString "last" then ul else if y = Str.ofString "first" then uf else if y = Str.ofString "place" then up else m₀ y) → News h₀ L h ((I, itR ((i + 1 : Nat) : Int) ((n : Int) - ((i + 1 : Nat) : Int))) :: (src, o) :: (d, od) :: Z) →
      wpAny (model prog w) A (assign target env (.int (i : Int) t)) (fun _ s₂ => wpAny (model prog w) A (execs body env) (DivTurn w h₀ L m₀ src d rest n i I { s with heap := h, toks := tk } Q) E s₂) E { s with heap := h, toks := tk })
    (done : ∀ (up uf ul ur : Option Value) (o od : Obj) (rs : List Value) (R : List (List Int)) (Z : Led) (h : Heap) (tk : Nat), SrcObj o → od.IsDictOf (PySem.intKind PySem.Challenge.rw_ok0144_01.row.prog w) (numd 0 rs) → Zip (RowV Z) rs R → R.length = n → (∀ p ∈ rest, p ∈ Z) → OwnOff Z [src, d] →
      Fr h₀ L h (fun y => if y = Str.ofString "row" then ur else if y = Str.ofString "last" then ul else if y = Str.ofString "first" then uf else if y = Str.ofString "place" then up else m₀ y) → News h₀ L h ((src, o) :: (d, od) :: Z) → Q .next { s with heap := h, toks := tk }) :
    wpAny (model prog w) A (pyIter (.ref r)) (fun it s₂ => codeAny (model prog w) A (.forLoop target it body [] env) (fun r s' => match r with | .ok f => Q f s' | .error e => cameBackBy (model prog w) A env E e s') s₂) E s := by
  refine for_any (DJ w m₀ src d rest) hh hr ?_ (by first | exact rangeSize_nat _ _ | rfl) F (news₀ := (src, o) :: (d, od) :: rest) (news_sub N fun p hp => ?_) ⟨m₀ (Str.ofString "place"), m₀ (Str.ofString "first"), m₀ (Str.ofString "last"), m₀ (Str.ofString "row"), o, od, [], [], rest, funext fun y => by (repeat' split) <;> simp_all, rfl, S, hd, .nil, rfl, fun _ h => h, fun p hp b hb => ?_⟩ ?_ ?_ hE ht
  · exact small_one (by omega) (by omega) (by omega) (by omega)
  · simp only [List.mem_cons] at hp
    rcases hp with rfl | rfl | hp
    · exact m2
    · exact m1
    · exact sub p hp
  · simp only [List.mem_cons, List.not_mem_nil, or_false] at hb
    rcases hb with rfl | rfl
    · exact off p hp _ (List.mem_singleton.mpr rfl)
    · exact Nat.ne_of_lt (ktn_ltOf lo p hp)
  · rintro i I t m₁ news₁ h tk hi ⟨up, uf, ul, ur, o, od, rs, R, Z, rfl, rfl, S, hd, hZ, hl, hs, hof⟩ offI F N
    refine turn i I t up uf ul ur o od (numd 0 rs) Z h tk (by omega) (by rw [numd_len, hZ.len]; exact hl) S hd ⟨rs, R, rfl, hZ, hl⟩ hs (fun p hp b hb => ?_) (offI (src, o) (.head _)) (offI (d, od) (.tail _ (.head _))) (SubL.up hs hk) F N
    rcases List.mem_cons.mp hb with rfl | hb
    · exact offI p (.tail _ (.tail _ hp))
    · exact hof p hp b hb
  · rintro m₁ news₁ h tk ⟨up, uf, ul, ur, o, od, rs, R, Z, rfl, rfl, S, hd, hZ, hl, hs, hof⟩ F N
    exact done up uf ul ur o od rs R Z h tk S hd hZ hl hs hof F N
end
local macro_rules | `(tactic| k_mem) => `(tactic| (refine memOf ?_; ktr_member))
theorem ln_DivG_1 : True := by
  k_with "binaryOp Mult ref int" => (k_here; (with_reducible show wpAny _ _ (binaryOp Operator.Mult (Value.ref _) (Value.int _ _)) _ _ _); k_dflt (refine' mul_seven ?Fz9 ?Nz9 ?mz9 ?zz9 ?_; (case Fz9 => k_asm); (case Nz9 => k_asm); (case mz9 => k_mem); (case zz9 => (rename _ ∨ _ => hn9r1; rcases hn9r1 with e | e <;> rw [e] <;> decide)); k_whole); intro l' vs' ms' h' hi' hl' F' N' l1; (try k_lt l1); (try k_sweep); (try dsimp only))
  k_with "newTuple" => (k_here; k_dflt (refine' new_tuple ?Fz9 ?Nz9 ?_ ?zz9; (case Fz9 => k_asm); (case Nz9 => k_asm); (case zz9 => first | size_fits | exact Nat.le_of_ble_eq_true rfl); k_whole); intro τ' h' F' N' l1; (try k_lt l1); (try k_sweep); (try dsimp only))
  k_with "call ref" => (k_here; (with_reducible show wpAny _ _ (call (Value.ref 314) [Value.ref _, Value.int _ _]) _ _ _); k_dflt (refine' take_use ?Bz9 ?Fz9 ?Xz9 ?Nz9 ?Tz9 ?Kz9 ?Uz9 ?Sz9 ?t1z9 ?t2z9 ?dz9 ?uz9 ?_; (case Bz9 => k_asm); (case Fz9 => k_asm); (case Xz9 => k_asm); (case Nz9 => k_asm); (case Tz9 => k_asm); (case Kz9 => first | exact rfl | assumption); (case Uz9 => k_updF); (case Sz9 => assumption); (case t1z9 => first | decide | assumption | omega); (case t2z9 => first | decide | assumption | omega); (case dz9 => ktr_room); (case uz9 => ktr_units); k_whole); intro r' t' o' h' tk' hr0' hr1' hS' F' N'; (try dsimp only); (try k_fold))
  k_with "eval IfExp" => (k_here; (fail_if_success (rename RowMark _ _ _ _ => mk9r4)); (rename IntsAre _ _ => hi9r4); k_dflt (refine' row_join ?Fz9 ?Nz9 ?Sz9 ?Mz9 ?Uz9 hi9r4 ?lz9 ?ltz9 (fun mk9r4 => ?_) (fun ρ' oρ' o' h' tk' hR' hS' F' N' l1 => ?_); (case Fz9 => k_asm); (case Nz9 => k_asm); (case Sz9 => assumption); (case Mz9 => k_mem); (case Uz9 => k_updF); (case lz9 => (simp only [List.length_append, List.length_cons, List.length_nil]; omega)); (case ltz9 => exact and6 (by assumption)); (all_goals k_whole)); (all_goals (try simp only [AllLt, and_true] at l1)); (all_goals (try dsimp only)); (all_goals (try k_fold)))
  k_with "call type:tuple" => (k_here; (rename RowMark _ _ _ _ => mk9r5); (with_reducible show wpAny _ _ (call (Value.type "tuple") [Value.ref _]) _ _ _); k_dflt (refine' tuple_lst ?Fz9 ?Nz9 ?mz9 mk9r5.hi mk9r5.hl ?_; (case Fz9 => k_asm); (case Nz9 => k_asm); (case mz9 => k_mem); k_whole); intro τ' h' F' N' l9r5; (try dsimp only))
  k_with "RowJ" => (k_here; (rename RowMark _ _ _ _ => mk9r6); (rename Fr _ _ _ _ => kF9r6); (rename News _ _ _ _ => kN9r6); first | exact ⟨_, _, _, _, _, rfl, rfl, ⟨_, 0, mk9r6.hi, mk9r6.hl, .inl rfl⟩, (by assumption), kF9r6, news_cut [_] [_, _, _, _, _, _] kN9r6, mk9r6.lt⟩ | ((rename GtAll _ _ => l9r6); exact ⟨_, _, _, _, _, rfl, rfl, ⟨_, 0, mk9r6.hi, mk9r6.hl, .inr rfl⟩, (by assumption), kF9r6, news_cut [_] [_, _, _, _, _, _, _] kN9r6, and7 (allLt_of l9r6)⟩))
  k_with "subl" => (intro p hp; (repeat (first | exact hp | refine List.Mem.tail _ ?_)))
  k_with "chain" => first | with_reducible assumption | exact and1 (by with_reducible assumption) | exact and2 (by with_reducible assumption) | exact and3 (by with_reducible assumption) | exact and4 (by with_reducible assumption)
  k_with "exec For Name Call cons nil" => (k_here; k_dflt (refine wpAny_For ?_))
  k_with "call builtin:len" => (k_here; (with_reducible show wpAny _ _ (call (Value.builtin "len") [Value.ref _]) _ _ _); k_dflt (refine' kun_lenL ?k1z9 ?k2z9 ?k3z9 ?_; (case k1z9 => exact News.isList (by k_asm) (by k_mem)); (case k2z9 => assumption); (case k3z9 => omega); k_whole))
  k_with "pyIter ref" => (k_here; (rename Fr _ _ _ _ => kF9r11); (rename News _ _ _ _ => kN9r11); (rename SubL _ _ => hk9r11); k_dflt (refine' for_div ?hhz9 ?hrz9 ?hnz9 kF9r11 kN9r11 ?m1z9 ?m2z9 ?subz9 ?hdz9 ?Sz9 ?offz9 ?loz9 hk9r11 ?hEz9 ?htz9 ?turnz9 ?donez9; (case hhz9 => exact rfl); (case hrz9 => assumption); (case hnz9 => assumption); (case offz9 => assumption); (case hdz9 => assumption); (case m1z9 => k_mem); (case m2z9 => k_mem); (case subz9 => walk_at "subl"); (case Sz9 => assumption); (case loz9 => walk_at "chain"); (case htz9 => intro _; rfl); (case' turnz9 => intro i' I' t' up' uf' ul' ur' o' od' kvs' Z' h' tk' a1' a2' a3' a4' a5' a6' a7' b1' b2' hk' F' N'; (rename OwnOff _ [_] => o9r11; clear o9r11); (have s1' := hk'.1); (have s2' := hk'.2.1)); (case' donez9 => intro up' uf' ul' ur' o' od' rs' R' Z' h' tk' a1' a2' a3' a4' a5' a6' F' N'; (rename OwnOff _ [_] => o9r11; clear o9r11)); k_whole))
  k_with "setItem ref int" => (k_here; k_dflt (refine' kda_set (knd := PySem.intKind _ _) ?Fz9 ?Nz9 ?Uz9 ?dz9 (intKind_is _ _ _ _) ?zz9 ?_; (case Fz9 => k_asm); (case Nz9 => k_asm); (case Uz9 => k_updF); (case dz9 => k_asm); (case zz9 => rw [sizeLine_eq]; omega); k_whole); intro h' o' F' N' hd'; (try dsimp only at N'); (try k_sweep))
  k_with "ne3" => refine ⟨by k_ne, by k_ne, by k_ne⟩
  k_with "DivTurn" => (k_here; (rename Fr _ _ _ _ => kF9r14); (rename News _ _ _ _ => kN9r14); (rename DivMark _ _ _ => dm9r14); k_dflt (refine' div_end kF9r14 kN9r14 dm9r14 ?ez9 ?m1z9 ?m2z9 ?m3z9 ?m4z9 ?subz9 ?Sz9 ?hRz9 ?hdz9 ?s0z9 ?offz9 ?n1z9 ?n2z9 ?x1z9; (case ez9 => (intro y h1 h2 h3 h4; simp only [if_neg h1, if_neg h2, if_neg h3, if_neg h4])); (case m1z9 => k_mem); (case m2z9 => k_mem); (case hdz9 => assumption); (case m3z9 => k_mem); (case hRz9 => assumption); (case m4z9 => k_mem); (case offz9 => assumption); (case subz9 => walk_at "subl"); (case Sz9 => assumption); (case s0z9 => assumption); (case n1z9 => assumption); (case n2z9 => assumption); (case x1z9 => walk_at "ne3")))
  trivial
set_option maxHeartbeats 4000000 in
theorem div_c (w : World) : ∀ {loose : List Str} {mean : ExcName → Option Value} {mg mb : Str → Option Value} {dp un : Nat} {gd : Option (List Code)} {cn : Str} {cs : Scope} {a : Addr} {ccd : Value} {cl : List (Str × Addr)} {outer : List Env} {A₀ : Around} {base h₀ : Heap} {L : Addr} {m : Str → Option Value} {s : Shared} {Q E : Value → Shared → Prop} {src x dx lst : Addr} {o od : Obj} {f : FDat} {nl n : Nat} {vs : List Value} {rest : Led},
    Below A₀ base outer h₀ → Fr h₀ L s.heap m → (Mine.kv.heap_1_1 w.params).In h₀ → News h₀ L s.heap ((src, o) :: rest) → Top Mine.kv.view_1_2 loose mean mg mb h₀ → cs.kind = .function → OwnOff rest [src] → SrcObj o → SubL [(x, instObj 111 dx), (dx, od)] rest → FrameD od f.kind f.p f.h f.w lst f.n → (lst, listOf vs.toArray nl) ∈ rest → (vs.toArray.size : Int) = (n : Int) → n ≤ 4 → f.n = 2 ∨ f.n = 3 → dp + 10 < recursionLimit → un + 100 < cLine →
    (∀ (d : Addr) (o' od' : Obj) (rs : List Value) (R : List (List Int)) (Z : Led) (h' : Heap) (tk' : Nat), SrcObj o' → od'.IsDictOf (PySem.intKind PySem.Challenge.rw_ok0144_01.row.prog w) (numd 0 rs) → Zip (RowV Z) rs R → R.length = n → (∀ p ∈ rest, p ∈ Z) → OwnOff Z [src, d] → @Ne Nat d src → (d == sysModules) = false → Fr h₀ L h' m → News h₀ L h' ((src, o') :: (d, od') :: Z) → Q (.ref d) { s with heap := h', toks := tk' }) →
    wpAny (model PySem.Challenge.rw_ok0144_01.row.prog w) (ktrTop dp un gd cn cs L a ccd cl outer) (call (.ref 340) [.ref src, .ref x]) Q E s := by
  k_fill
  intro loose mean mg mb dp un gd cn cs a ccd cl outer A₀ base h₀ L m s Q E src x dx lst o od f nl n vs rest B F X N T hk off hS hsub hF m3 hsz h4 hn2 hd hu hret
  obtain ⟨_, _, _, _, _, _, _, _, _, _, _, _, _, _, _, _, _, _, rfl⟩ := hF
  have m1 := hsub.1
  have m2 := hsub.2.1
  refine wpAny_call ?_
  k_dflt cell_enter
  k_steps
  (rename Fr _ _ _ _ => kF9); (rename News _ _ _ _ => kN9)
  refine' hret _ _ _ _ _ _ _ _ ?S ?hd ?hZ ?hl ?sub ?off ?n1 ?lo kF9 kN9
  (case hd => assumption)
  (case hZ => assumption)
  (case S => assumption)
  (case hl => assumption)
  (case sub => assumption)
  (case off => assumption)
  (case n1 => k_ne)
  (case lo => assumption)
theorem div_g {w : World} {loose : List Str} {mean : ExcName → Option Value} {mg mb : Str → Option Value} {dp un : Nat} {gd : Option (List Code)} {cn : Str} {cs : Scope} {a : Addr} {ccd : Value} {cl : List (Str × Addr)} {outer : List Env} {A₀ : Around} {base h₀ : Heap} {L : Addr} {m : Str → Option Value} {s : Shared} {Q E : Value → Shared → Prop} {src : Addr} {o : Obj} {rest l : Led} {x : Addr} {f : FDat} {cps : List CDat} (B : Below A₀ base outer h₀) (F : Fr h₀ L s.heap m) (X : (Mine.kv.heap_1_1 w.params).In h₀) (N : News h₀ L s.heap ((src, o) :: rest)) (T : Top Mine.kv.view_1_2 loose mean mg mb h₀) (hk : cs.kind = .function)
    (off : OwnOff rest [src]) (S : SrcObj o) (fr0 : FrameAt l x f cps) (sub : ∀ p ∈ l, p ∈ rest) (hn : f.n ∈ [(2 : Int), 3]) (h1 : 1 ≤ cps.length) (h4 : cps.length ≤ 4) (hd : dp + 10 < recursionLimit) (hu : un + 100 < cLine)
    (ret : ∀ (d : Addr) (rest' : Led) (R : List (List Int)) (o' : Obj) (h' : Heap) (tk' : Nat), Grow rest rest' src → DivAt w rest' d R → R.length = cps.length → SrcObj o' → Fr h₀ L h' m → News h₀ L h' ((src, o') :: rest') → Q (.ref d) { s with heap := h', toks := tk' }) :
    wpAny (model PySem.Challenge.rw_ok0144_01.row.prog w) (ktrTop dp un gd cn cs L a ccd cl outer) (call (.ref 340) [.ref src, .ref x]) Q E s := by
  have fr := fr0.mono sub
  obtain ⟨dx, od, lst, nl, vs, m1, m2, hF, m3, Z⟩ := fr
  refine div_c w B F X N T hk off S ⟨m1, m2, trivial⟩ hF m3 (by rw [List.size_toArray, Z.len]) h4 (n23 hn) hd hu ?_
  intro d o' od' rs R Z' h' tk' S' hD hZ hl sub' off' n1 lo F' N'
  have up : ∀ p ∈ Z', p ∈ (d, od') :: Z' := fun p hp => .tail _ hp
  refine ret d ((d, od') :: Z') R o' h' tk' ⟨fun p hp => up p (sub' p hp), fun p hp b hb => ?_⟩ ⟨od', rs, .head _, lo, hD, hZ.imp fun _ _ => RowV.mono up⟩ hl S' F' N'
  rw [List.mem_singleton.mp hb]
  rcases List.mem_cons.mp hp with rfl | hp
  · exact n1
  · exact off' p hp src (.head _)
end DivG
section SlotG
def dd (R : List (List Int)) : List (List Int) := R.foldl ddStep []
def slotOf (R : List (List Int)) (i : Nat) : Nat := List.idxOf (R.getD i []) (dd (R.take (i + 1)))
def storedP (kvs : List (Int × List Int)) (k : Int) (v : List Int) : List (Int × List Int) := if kvs.any (fun kv => kv.1 = k) then kvs.map (fun kv => if kv.1 = k then (kv.1, v) else kv) else kvs ++ [(k, v)]
def tabs (R : List (List Int)) : Nat → List (Int × List Int)
  | 0 => []
  | i + 1 => storedP (tabs R i) (slotOf R i : Nat) (R.getD i [])
def outc (cps : List CDat) (R : List (List Int)) (i : Nat) : List CDat := (List.range i).map fun j => { cps.getD j dflt with q := ((slotOf R j : Nat) : Int) }
def TupV (N : Led) (v : Value) (ns : List Int) : Prop := ∃ r o, v = .ref r ∧ (r, o) ∈ N ∧ TupO o ns
theorem TupV.up {N N' : Led} (s : Up N N') {v : Value} {c : List Int} (h : TupV N v c) : TupV N' v c := by
  obtain ⟨x, o, e, a, b⟩ := h; exact ⟨x, o, e, s _ a b.nc, b⟩
/-- a dict's pairs, each value a tuple of ints -/
inductive TabRel (N : Led) : List (Int × Value) → List (Int × List Int) → Prop
  | nil : TabRel N [] []
  | cons {k : Int} {v : Value} {ns : List Int} {a : List (Int × Value)} {b : List (Int × List Int)} : TupV N v ns → TabRel N a b → TabRel N ((k, v) :: a) ((k, ns) :: b)
theorem TabRel.up {N N' : Led} (s : Up N N') {a : List (Int × Value)} {b : List (Int × List Int)} (h : TabRel N a b) : TabRel N' a b := by
  induction h with
  | nil => exact .nil
  | cons x _ ih => exact .cons (x.up s) ih
theorem TabRel.mono {N N' : Led} (s : ∀ p ∈ N, p ∈ N') {a : List (Int × Value)} {b : List (Int × List Int)} (h : TabRel N a b) : TabRel N' a b := h.up (Up.of s)
theorem TabRel.len {N : Led} {a : List (Int × Value)} {b : List (Int × List Int)} (h : TabRel N a b) : a.length = b.length := by
  induction h with
  | nil => rfl
  | cons _ _ ih => simp [ih]
theorem TabRel.snoc {N : Led} {a : List (Int × Value)} {b : List (Int × List Int)} {k : Int} {v : Value} {ns : List Int} (h : TabRel N a b) (x : TupV N v ns) : TabRel N (a ++ [(k, v)]) (b ++ [(k, ns)]) := by
  induction h with
  | nil => exact .cons x .nil
  | cons y _ ih => exact .cons y ih
theorem TabRel.any {N : Led} {a : List (Int × Value)} {b : List (Int × List Int)} (k : Int) (h : TabRel N a b) : a.any (fun kv => kv.1 = k) = b.any fun kv => kv.1 = k := by
  induction h with
  | nil => rfl
  | cons _ _ ih => simp only [List.any_cons, ih]
theorem TabRel.put {N : Led} {a : List (Int × Value)} {b : List (Int × List Int)} {k : Int} {v : Value} {ns : List Int} (h : TabRel N a b) (x : TupV N v ns) : TabRel N (a.map fun kv => if kv.1 = k then (kv.1, v) else kv) (b.map fun kv => if kv.1 = k then (kv.1, ns) else kv) := by
  induction h with
  | nil => exact .nil
  | @cons k' v' ns' a' b' y _ ih =>
    simp only [List.map_cons]
    by_cases e : k' = k
    · rw [if_pos e, if_pos e]; exact .cons x ih
    · rw [if_neg e, if_neg e]; exact .cons y ih
theorem TabRel.stored {N : Led} {a : List (Int × Value)} {b : List (Int × List Int)} {k : Int} {v : Value} {ns : List Int} (h : TabRel N a b) (x : TupV N v ns) : TabRel N (stored a k v) (storedP b k ns) := by
  unfold PySem.stored storedP
  rw [h.any k]
  split
  · exact h.put x
  · exact h.snoc x
def TablesAt (w : World) (N : Led) (tb : Addr) (pv : List (Int × List Int)) : Prop :=
  ∃ dt ot dz dc dk oz oc ok kvs, (tb, instObj 226 dt) ∈ N ∧ (dt, ot) ∈ N ∧ TablesD ot dz dc dk ∧ (dz, oz) ∈ N ∧ oz.IsDictOf (PySem.intKind PySem.Challenge.rw_ok0144_01.row.prog w) kvs ∧ TabRel N kvs pv ∧ (dz == sysModules) = false ∧
    (dc, oc) ∈ N ∧ oc.IsDictOf (PySem.intKind PySem.Challenge.rw_ok0144_01.row.prog w) [] ∧ (dc == sysModules) = false ∧ (dk, ok) ∈ N ∧ ok.IsDictOf (PySem.intKind PySem.Challenge.rw_ok0144_01.row.prog w) [] ∧ (dk == sysModules) = false
theorem TablesAt.up {w : World} {N N' : Led} (s : Up N N') {tb : Addr} {pv : List (Int × List Int)} (h : TablesAt w N tb pv) : TablesAt w N' tb pv := by
  obtain ⟨dt, ot, dz, dc, dk, oz, oc, ok, kvs, a1, a2, a3, a4, a5, a6, a7, a8, a9, a10, a11, a12, a13⟩ := h
  exact ⟨dt, ot, dz, dc, dk, oz, oc, ok, kvs, s _ a1 nc_inst, s _ a2 a3.nc, a3, s _ a4 (nc_isDict a5), a5, a6.up s, a7, s _ a8 (nc_isDict a9), a9, a10, s _ a11 (nc_isDict a12), a12, a13⟩
theorem dd_snoc (R : List (List Int)) (i : Nat) (h : i < R.length) : dd (R.take (i + 1)) = ddStep (dd (R.take i)) (R.getD i []) := by
  unfold dd
  rw [List.take_add_one, List.foldl_append, List.getElem?_eq_getElem h, List.getD_eq_getElem?_getD, List.getElem?_eq_getElem h]
  rfl
theorem ddStep_len (acc : List (List Int)) (r : List Int) : (ddStep acc r).length ≤ acc.length + 1 := by
  unfold ddStep; split <;> simp
theorem dd_len (R : List (List Int)) : (dd R).length ≤ R.length := by
  have : ∀ (l acc : List (List Int)), (l.foldl ddStep acc).length ≤ acc.length + l.length := by
    intro l
    induction l with
    | nil => intro acc; exact Nat.le_refl _
    | cons r t ih =>
      intro acc
      rw [List.foldl_cons]
      have h1 := ih (ddStep acc r)
      have h2 := ddStep_len acc r
      rw [List.length_cons]
      omega
  simpa [dd] using this R []
def SJ (w : World) (m₀ : Str → Option Value) (rl cl dz src : Addr) (o : Obj) (rest₀ : Led) (cps : List CDat) (R : List (List Int)) (i : Nat) (m₁ : Str → Option Value) (news₁ : Led) : Prop :=
  ∃ (up uc ut us : Option Value) (vs ys : List Value) (nv ny : Nat) (oz : Obj) (kvs : List (Int × Value)) (Z : Led),
    m₁ = (fun y => if y = Str.ofString "slot" then us else if y = Str.ofString "told" then ut else if y = Str.ofString "component" then uc else if y = Str.ofString "place" then up else m₀ y) ∧
    news₁ = (rl, listOf vs.toArray nv) :: (cl, listOf ys.toArray ny) :: (dz, oz) :: (src, o) :: Z ∧ TupsIn Z vs (dd (R.take i)) ∧ Zip (CompAt Z) ys (outc cps R i) ∧
    oz.IsDictOf (PySem.intKind PySem.Challenge.rw_ok0144_01.row.prog w) kvs ∧ TabRel Z kvs (tabs R i) ∧ (∀ p ∈ rest₀, p ∈ Z) ∧ OwnOff Z [src, rl, cl, dz]
theorem sj_first {w : World} {m₀ : Str → Option Value} {rl cl dz src : Addr} {o oz : Obj} {rest₀ : Led} {cps : List CDat} {R : List (List Int)} {nv ny : Nat} (h : oz.IsDictOf (PySem.intKind PySem.Challenge.rw_ok0144_01.row.prog w) []) (off : OwnOff rest₀ [src, rl, cl, dz]) :
    SJ w m₀ rl cl dz src o rest₀ cps R 0 m₀ ((rl, listOf #[] nv) :: (cl, listOf #[] ny) :: (dz, oz) :: (src, o) :: rest₀) :=
  ⟨m₀ (Str.ofString "place"), m₀ (Str.ofString "component"), m₀ (Str.ofString "told"), m₀ (Str.ofString "slot"), [], [], nv, ny, oz, [], rest₀,
    funext fun y => by (repeat' split) <;> simp_all, rfl, ⟨rfl, fun i hi => absurd hi (Nat.not_lt_zero _)⟩, .nil, h, .nil, fun _ h => h, off⟩
section
variable {prog : Program} {w : World} {A : Around} {E : Value → Shared → Prop} {s : Shared} {env : Env} {h₀ : Heap} {L : Addr} {m₀ : Str → Option Value} {Q : Flow → Shared → Prop}
def SlotTurn (w : World) (h₀ : Heap) (L : Addr) (m₀ : Str → Option Value) (rl cl dz src : Addr) (o : Obj) (rest₀ : Led) (cps : List CDat) (R : List (List Int)) (i : Nat) (I : Addr) (s₁ : Shared) (Q : Flow → Shared → Prop) (f : Flow) (s₂ : Shared) : Prop :=
  TurnPost h₀ L (SJ w m₀ rl cl dz src o rest₀ cps R (i + 1)) I (itR ((i + 1 : Nat) : Int) ((R.length : Int) - ((i + 1 : Nat) : Int))) s₁ Q f s₂
theorem slot_end {rl cl dz src I : Addr} {o : Obj} {rest₀ all Z : Led} {cps : List CDat} {R : List (List Int)} {i : Nat} {s₁ : Shared} {h : Heap} {tk : Nat} {m' : Str → Option Value} {oz : Obj} {kvs : List (Int × Value)} {vs ys : List Value} {nv ny : Nat}
    (F : Fr h₀ L h m') (N : News h₀ L h all) (e : ∀ y, y ≠ Str.ofString "slot" → y ≠ Str.ofString "told" → y ≠ Str.ofString "component" → y ≠ Str.ofString "place" → m' y = m₀ y)
    (m1 : (I, itR ((i + 1 : Nat) : Int) ((R.length : Int) - ((i + 1 : Nat) : Int))) ∈ all) (m2 : (rl, listOf vs.toArray nv) ∈ all) (m3 : (cl, listOf ys.toArray ny) ∈ all) (m4 : (dz, oz) ∈ all) (m5 : (src, o) ∈ all) (sub : ∀ p ∈ Z, p ∈ all)
    (offI : ∀ p ∈ Z, p.1 ≠ I) (n1 : rl ≠ I) (n2 : cl ≠ I) (n3 : dz ≠ I) (n4 : src ≠ I) (hT : TupsIn Z vs (dd (R.take (i + 1)))) (hZ : Zip (CompAt Z) ys (outc cps R (i + 1)))
    (hd : oz.IsDictOf (PySem.intKind PySem.Challenge.rw_ok0144_01.row.prog w) kvs) (hr : TabRel Z kvs (tabs R (i + 1))) (s0 : ∀ p ∈ rest₀, p ∈ Z) (off : OwnOff Z [src, rl, cl, dz]) :
    SlotTurn w h₀ L m₀ rl cl dz src o rest₀ cps R i I s₁ Q .next { s₁ with heap := h, toks := tk } := by
  refine ⟨h, tk, m', (rl, listOf vs.toArray nv) :: (cl, listOf ys.toArray ny) :: (dz, oz) :: (src, o) :: Z, rfl, F, fun p hp => ?_, fun p hp => ?_, m' (Str.ofString "place"), m' (Str.ofString "component"), m' (Str.ofString "told"), m' (Str.ofString "slot"), vs, ys, nv, ny, oz, kvs, Z, funext fun y => ?_, rfl, hT, hZ, hd, hr, s0, off⟩
  · simp only [List.mem_cons] at hp
    rcases hp with rfl | rfl | rfl | rfl | rfl | hp
    · exact N _ m1
    · exact N _ m2
    · exact N _ m3
    · exact N _ m4
    · exact N _ m5
    · exact N _ (sub p hp)
  · simp only [List.mem_cons] at hp
    rcases hp with rfl | rfl | rfl | rfl | hp
    · exact n1
    · exact n2
    · exact n3
    · exact n4
    · exact offI p hp
  · by_cases e1 : y = Str.ofString "slot"
    · rw [if_pos e1, e1]
    · rw [if_neg e1]
      by_cases e2 : y = Str.ofString "told"
      · rw [if_pos e2, e2]
      · rw [if_neg e2]
        by_cases e3 : y = Str.ofString "component"
        · rw [if_pos e3, e3]
        · rw [if_neg e3]
          by_cases e4 : y = Str.ofString "place"
          · rw [if_pos e4, e4]
          · rw [if_neg e4]
            exact e y e1 e2 e3 e4
theorem for_slot {target : Expr} {body : List Stmt} {r : Addr} {t u v : Tok} {R : List (List Int)} {rl cl dz src : Addr} {o oz : Obj} {nv ny : Nat} {rest₀ : Led} {cps : List CDat} (n : Nat)
    (hh : A.handled = none) (hr : IsRange s.heap r 0 (n : Int) 1 t u v) (hn : n = R.length) (hR : R.length ≤ 4) (F : Fr h₀ L s.heap m₀) (N : News h₀ L s.heap ((rl, listOf #[] nv) :: (cl, listOf #[] ny) :: (dz, oz) :: (src, o) :: rest₀))
    (ho : oz.IsDictOf (PySem.intKind PySem.Challenge.rw_ok0144_01.row.prog w) []) (off : OwnOff rest₀ [src, rl, cl, dz]) (hc : cps.length = R.length)
    (hE : PassesOwn (model prog w) A env E) (ht : ∀ v, letOwnedTupleGo target (.ref s.heap.objs.size) v = pure ())
    (turn : ∀ (i : Nat) (I : Addr) (t : Tok) (up uc ut us : Option Value) (vs ys : List Value) (nv ny : Nat) (oz : Obj) (kvs : List (Int × Value)) (Z : Led) (h : Heap) (tk : Nat), AtI R i → i < cps.length → vs.length ≤ i → ys.length = i → kvs.length ≤ i → i < 4 →
      TupsIn Z vs (dd (R.take i)) → Zip (CompAt Z) ys (outc cps R i) → oz.IsDictOf (PySem.intKind PySem.Challenge.rw_ok0144_01.row.prog w) kvs → TabRel Z kvs (tabs R i) → (∀ p ∈ rest₀, p ∈ Z) → OwnOff Z [src, rl, cl, dz] →
      OwnOff Z [I] → @Ne Nat rl I → @Ne Nat cl I → @Ne Nat dz I → @Ne Nat src I →
      Fr h₀ L h (fun y => if y = Str.ofString "slot" then us else if y = Str.ofString "told" then ut else if y = Str.ofString "component" then uc else if y = Str.ofString "place" then up else m₀ y) →
      News h₀ L h ((I, itR ((i + 1 : Nat) : Int) ((R.length : Int) - ((i + 1 : Nat) : Int))) :: (rl, listOf vs.toArray nv) :: (cl, listOf ys.toArray ny) :: (dz, oz) :: (src, o) :: Z) →
      wpAny (model prog w) A (assign target env (.int (i : Int) t)) (fun _ s₂ => wpAny (model prog w) A (execs body env) (SlotTurn w h₀ L m₀ rl cl dz src o rest₀ cps R i I { s with heap := h, toks := tk } Q) E s₂) E { s with heap := h, toks := tk })
    (done : ∀ (up uc ut us : Option Value) (vs ys : List Value) (nv ny : Nat) (oz : Obj) (kvs : List (Int × Value)) (Z : Led) (h : Heap) (tk : Nat), Zip (CompAt Z) ys (outc cps R cps.length) → oz.IsDictOf (PySem.intKind PySem.Challenge.rw_ok0144_01.row.prog w) kvs → TabRel Z kvs (tabs R cps.length) → (∀ p ∈ rest₀, p ∈ Z) → OwnOff Z [src, rl, cl, dz] →
      Fr h₀ L h (fun y => if y = Str.ofString "slot" then us else if y = Str.ofString "told" then ut else if y = Str.ofString "component" then uc else if y = Str.ofString "place" then up else m₀ y) → News h₀ L h ((rl, listOf vs.toArray nv) :: (cl, listOf ys.toArray ny) :: (dz, oz) :: (src, o) :: Z) → Q .next { s with heap := h, toks := tk }) :
    wpAny (model prog w) A (pyIter (.ref r)) (fun it s₂ => codeAny (model prog w) A (.forLoop target it body [] env) (fun r s' => match r with | .ok f => Q f s' | .error e => cameBackBy (model prog w) A env E e s') s₂) E s := by
  subst hn
  refine for_any (SJ w m₀ rl cl dz src o rest₀ cps R) hh hr ?_ (by first | exact rangeSize_nat _ _ | rfl) F N (sj_first ho off) ?_ ?_ hE ht
  · exact small_one (by omega) (by omega) (by omega) (by omega)
  · rintro i I t m₁ news₁ h tk hi ⟨up, uc, ut, us, vs, ys, nv, ny, oz, kvs, Z, rfl, rfl, hT, hZ, hd, hr, hs, hof⟩ offI F N
    refine turn i I t up uc ut us vs ys nv ny oz kvs Z h tk hi (by omega) ?_ ?_ ?_ (by omega) hT hZ hd hr hs hof (fun p hp b hb => ?_) (offI (rl, listOf vs.toArray nv) (by k_mem)) (offI (cl, listOf ys.toArray ny) (by k_mem)) (offI (dz, oz) (by k_mem)) (offI (src, o) (by k_mem)) F N
    · rw [hT.1]; refine Nat.le_trans (dd_len _) ?_; rw [List.length_take]; omega
    · rw [hZ.len]; simp [outc]
    · rw [hr.len]
      have : ∀ i, (tabs R i).length ≤ i := by
        intro i
        induction i with
        | zero => exact Nat.le_refl _
        | succ i ih =>
          show (storedP (tabs R i) _ _).length ≤ i + 1
          unfold storedP
          split
          · rw [List.length_map]; omega
          · rw [List.length_append, List.length_singleton]; omega
      exact this i
    · rw [List.mem_singleton.mp hb]
      exact offI p (.tail _ (.tail _ (.tail _ (.tail _ hp))))
  · rintro m₁ news₁ h tk ⟨up, uc, ut, us, vs, ys, nv, ny, oz, kvs, Z, rfl, rfl, hT, hZ, hd, hr, hs, hof⟩ F N
    rw [← hc] at hZ hr
    exact done up uc ut us vs ys nv ny oz kvs Z h tk hZ hd hr hs hof F N
end
end SlotG
section SlotW
theorem mem_dd {acc : List (List Int)} {r : List Int} : r ∈ ddStep acc r := by
  unfold ddStep; split
  · assumption
  · simp
theorem numd_at : ∀ (vs : List Value) (i j : Nat), valueAt (numd j vs) ((j + i : Nat) : Int) = vs[i]?
  | [], i, j => by simp [numd, valueAt]
  | v :: r, 0, j => by simp [numd, valueAt]
  | v :: r, i + 1, j => by
    have h := numd_at r i (j + 1)
    have e : j + 1 + i = j + (i + 1) := by omega
    rw [e] at h
    rw [List.getElem?_cons_succ, ← h]
    have ne : ¬ (decide (((j : Nat) : Int) = ((j + (i + 1) : Nat) : Int)) = true) := fun h' => by
      have h2 := of_decide_eq_true h'
      omega
    show ((List.find? (fun kv => decide (kv.1 = ((j + (i + 1) : Nat) : Int))) (((j : Int), v) :: numd (j + 1) r)).map (·.2)) = _
    rw [List.find?_cons_of_neg (p := fun kv : Int × Value => decide (kv.1 = ((j + (i + 1) : Nat) : Int))) ne]
    rfl
section
variable {prog : Program} {w : World} {A : Around} {E : Value → Shared → Prop} {s : Shared} {h₀ : Heap} {L : Addr} {m : Str → Option Value}
theorem comp_item {value slice : Expr} {lst : Addr} {n i : Nat} {all Z : Led} {vs : List Value} {cps : List CDat} {t : Tok} {Q : Value → Shared → Prop} (N : News h₀ L s.heap all) (hl : (lst, listOf vs.toArray n) ∈ all) (hZ : Zip (CompAt Z) vs cps) (hi : i < cps.length) (h4 : i < 65536)
    (h : ∀ (x d : Addr) (H1 H2 H3 H4 : Int) (t1 t2 t3 t4 u1 u2 u3 u4 : Tok) (n : Nat), (x, instObj 45 d) ∈ Z → (d, dictOf [⟨H1, .str (Str.ofString "ident") t1, .int (cps.getD i dflt).i u1⟩, ⟨H2, .str (Str.ofString "across") t2, .int (cps.getD i dflt).a u2⟩, ⟨H3, .str (Str.ofString "down") t3, .int (cps.getD i dflt).d u3⟩, ⟨H4, .str (Str.ofString "quant") t4, .int (cps.getD i dflt).q u4⟩] n) ∈ Z → Q (.ref x) s)
    (hs : subscripted slice false (.ref lst) (.int i t) = operate [.ref lst, .int i t] (getItem (.ref lst) (.int i t)) := by with_unfolding_all rfl) :
    wpAny (model prog w) A (subscriptTail value slice (.ref lst) (.int (i : Int) t)) Q E s := by
  obtain ⟨v, e, x, d, od, rfl, a, b, c⟩ := hZ.at i hi
  have hg : cps.getD i dflt = cps[i] := by rw [List.getD_eq_getElem?_getD, List.getElem?_eq_getElem hi]; rfl
  rw [hg] at h
  refine tail_any (News.isList N hl).typeIs PySem.F.slot_list_getitem.lookup ?_ hs
  refine getItem_listL (News.isList N hl) (Int.natCast_nonneg i) (by omega) (x := .ref x) ?_ (by obtain ⟨H1, H2, H3, H4, t1, t2, t3, t4, u1, u2, u3, u4, n, rfl⟩ := c; exact h x d _ _ _ _ _ _ _ _ _ _ _ _ _ a b)
  simpa using e
theorem div_item {value slice : Expr} {d : Addr} {od : Obj} {i : Nat} {all Z : Led} {rs : List Value} {R : List (List Int)} {t : Tok} {Q : Value → Shared → Prop} (N : News h₀ L s.heap all) (hl : (d, od) ∈ all) (hd : od.IsDictOf (PySem.intKind prog w) (numd 0 rs)) (hZ : Zip (RowV Z) rs R) (hi : i < R.length)
    (h : ∀ r o, (r, o) ∈ Z → RowO o (R.getD i []) → Q (.ref r) { s with toks := s.toks + 1 })
    (hs : subscripted slice false (.ref d) (.int i t) = operate [.ref d, .int i t] (getItem (.ref d) (.int i t)) := by with_unfolding_all rfl) (hg : ∀ r, letTemporaryGo value (.ref d) r = pure () := by intro _; with_unfolding_all rfl) :
    wpAny (model prog w) A (subscriptTail value slice (.ref d) (.int (i : Int) t)) Q E s := by
  obtain ⟨v, e, r, o, rfl, a, b⟩ := hZ.at i hi
  have hg' : R.getD i [] = R[i] := by rw [List.getD_eq_getElem?_getD, List.getElem?_eq_getElem hi]; rfl
  rw [hg'] at h
  have hv := numd_at rs i 0
  rw [Nat.zero_add, e] at hv
  exact kda_item N hl hd (intKind_is _ _ _ _) hv (h r o a b) hs hg
def RowsT (h₀ : Heap) (L : Addr) (m : Str → Option Value) (g : Obj → Led) (Z : Led) (acc : List (List Int)) (b : Nat) (s : Shared) (f : Flow) (s₂ : Shared) : Prop :=
  f = .next ∧ ∃ vs' n' h' tk', s₂ = { s with heap := h', toks := tk' } ∧ TupsIn Z vs' acc ∧ vs'.length ≤ b ∧ Fr h₀ L h' m ∧ News h₀ L h' (g (listOf vs'.toArray n'))
theorem rows_if {env : Env} {st : Stmt} {rl τ : Addr} {n b : Nat} {vs : List Value} {Z : Led} {acc : List (List Int)} {r : List Int} {oτ : Obj} {news : Led} {g : Obj → Led} {Q : Flow → Shared → Prop}
    (_e1 : m (Str.ofString "rows") = some (.ref rl)) (_e2 : m (Str.ofString "told") = some (.ref τ)) (_F : Fr h₀ L s.heap m) (_N : News h₀ L s.heap news) (_U : UpdF rl (listOf vs.toArray n) news g) (_K : TupsIn Z vs acc) (_hb : vs.length ≤ b) (_ht : (τ, oτ) ∈ news) (_hx : TupO oτ r)
    (walk : RowsMark rl → TupsIn Z vs acc → vs.length ≤ b → wpAny (model prog w) A (exec st env) (RowsT h₀ L m g ((τ, oτ) :: Z) (ddStep acc r) (b + 1) s) E s)
    (ret : ∀ vs' n' h' tk', TupsIn ((τ, oτ) :: Z) vs' (ddStep acc r) → vs'.length ≤ b + 1 → Fr h₀ L h' m → News h₀ L h' (g (listOf vs'.toArray n')) → Q .next { s with heap := h', toks := tk' }) :
    wpAny (model prog w) A (exec st env) Q E s := by
  refine wpAny_mono (walk ⟨trivial⟩ _K _hb) (fun f s₂ h => ?_) fun _ _ e => e
  obtain ⟨rfl, vs', n', h', tk', rfl, a, b', c, d⟩ := h
  exact ret vs' n' h' tk' a b' c d
theorem rowsT_old {g : Obj → Led} {Z : Led} {acc : List (List Int)} {vs : List Value} {b n τ : Nat} {oτ : Obj} {r : List Int} {h' : Heap} {tk : Nat} (K : TupsIn Z vs acc) (hb : vs.length ≤ b) (F : Fr h₀ L h' m) (N : News h₀ L h' (g (listOf vs.toArray n))) (hm : r ∈ acc) :
    RowsT h₀ L m g ((τ, oτ) :: Z) (ddStep acc r) (b + 1) s .next { s with heap := h', toks := tk } := by
  refine ⟨rfl, vs, n, h', tk, rfl, ?_, Nat.le_succ_of_le hb, F, N⟩
  unfold ddStep
  rw [if_pos hm]
  exact K.mono fun p hp => .tail _ hp
theorem TupsIn.snoc {Z : Led} {vs : List Value} {acc : List (List Int)} {τ : Addr} {oτ : Obj} {r : List Int} (K : TupsIn Z vs acc) (hx : TupO oτ r) : TupsIn ((τ, oτ) :: Z) (vs ++ [.ref τ]) (acc ++ [r]) := by
  refine ⟨by simp [K.1], fun i hi => ?_⟩
  rw [List.length_append, List.length_singleton] at hi
  by_cases h : i < acc.length
  · obtain ⟨σ, o, a, b, c⟩ := K.2 i h
    refine ⟨σ, o, ?_, .tail _ b, ?_⟩
    · rw [List.getElem?_append_left (by rw [K.1]; exact h)]; exact a
    · rw [List.getElem_append_left h]; exact c
  · have e : i = acc.length := by omega
    subst e
    refine ⟨τ, oτ, ?_, .head _, ?_⟩
    · rw [← K.1]; simp
    · simpa using hx
theorem rowsT_new {g : Obj → Led} {Z : Led} {acc : List (List Int)} {vs : List Value} {b n τ : Nat} {oτ : Obj} {r : List Int} {h' : Heap} {tk : Nat} (K : TupsIn Z vs acc) (hx : TupO oτ r) (hb : vs.length ≤ b) (F : Fr h₀ L h' m) (N : News h₀ L h' (g (listOf (vs.toArray.push (.ref τ)) n))) (hm : r ∉ acc) :
    RowsT h₀ L m g ((τ, oτ) :: Z) (ddStep acc r) (b + 1) s .next { s with heap := h', toks := tk } := by
  refine ⟨rfl, vs ++ [.ref τ], n, h', tk, rfl, ?_, by simpa using hb, F, by rw [List.push_toArray] at N; exact N⟩
  unfold ddStep
  rw [if_neg hm]
  exact K.snoc hx
theorem notin_led {τ l : Addr} {n : Nat} {all Z : Led} {vs : List Value} {R : List (List Int)} {oτ : Obj} {x : List Int} {Q : Value → Shared → Prop} (N : News h₀ L s.heap all) (hT : TupsIn Z vs R) (sub : ∀ p ∈ Z, p ∈ all) (ht : (τ, oτ) ∈ all) (hx : TupO oτ x)
    (hl : (l, listOf vs.toArray n) ∈ all) (hu : A.in1.units < cLine) (h : Q (.bool (decide (x ∉ R))) s) : wpAny (model prog w) A (compareOp .NotIn (.ref τ) (.ref l)) Q E s := by
  refine notin_rows (k := vs.length) N hT sub ht hx (by rw [List.take_length]; exact hl) hu ?_
  rw [hT.1, List.take_length]
  exact h
theorem slot_fin {Q : Flow → Shared → Prop} {m₀ m' : Str → Option Value} {rl cl dz src I τ xn dn : Addr} {o oτ odn : Obj} {rest₀ all Z : Led} {cps : List CDat} {R : List (List Int)} {i : Nat} {s₁ : Shared} {h : Heap} {tk : Nat} {oz : Obj} {kvs : List (Int × Value)} {vs ys : List Value} {nv ny : Nat}
    (F : Fr h₀ L h m') (N : News h₀ L h all) (hi : AtI R i) (e : ∀ y, y ≠ Str.ofString "slot" → y ≠ Str.ofString "told" → y ≠ Str.ofString "component" → y ≠ Str.ofString "place" → m' y = m₀ y)
    (m1 : (I, itR ((i + 1 : Nat) : Int) ((R.length : Int) - ((i + 1 : Nat) : Int))) ∈ all) (m2 : (rl, listOf vs.toArray nv) ∈ all) (m3 : (cl, listOf (ys.toArray.push (.ref xn)) ny) ∈ all) (m4 : (dz, oz) ∈ all) (m5 : (src, o) ∈ all)
    (m6 : (xn, instObj 45 dn) ∈ all) (m7 : (dn, odn) ∈ all) (m8 : (τ, oτ) ∈ all) (sub : ∀ p ∈ Z, p ∈ all)
    (offA : OwnOff Z [I, src, rl, cl, dz]) (n1 : rl ≠ I) (n2 : cl ≠ I) (n3 : dz ≠ I) (n4 : src ≠ I) (x1 : xn ≠ I ∧ xn ≠ src ∧ xn ≠ rl ∧ xn ≠ cl ∧ xn ≠ dz) (d1 : dn ≠ I ∧ dn ≠ src ∧ dn ≠ rl ∧ dn ≠ cl ∧ dn ≠ dz) (t1 : τ ≠ I ∧ τ ≠ src ∧ τ ≠ rl ∧ τ ≠ cl ∧ τ ≠ dz)
    (hT : TupsIn ((τ, oτ) :: Z) vs (ddStep (dd (R.take i)) (R.getD i []))) (hx : TupO oτ (R.getD i [])) (hZ : Zip (CompAt Z) ys (outc cps R i)) {q : Nat} (hq : q = List.idxOf (R.getD i []) (ddStep (dd (R.take i)) (R.getD i []))) (hC : CompD odn (cps.getD i dflt).i (cps.getD i dflt).a (cps.getD i dflt).d (q : Int))
    (hd : oz.IsDictOf (PySem.intKind PySem.Challenge.rw_ok0144_01.row.prog w) (stored kvs (q : Int) (.ref τ))) (hr : TabRel Z kvs (tabs R i)) (s0 : ∀ p ∈ rest₀, p ∈ Z) :
    SlotTurn w h₀ L m₀ rl cl dz src o rest₀ cps R i I s₁ Q .next { s₁ with heap := h, toks := tk } := by
  have hq' : q = slotOf R i := by rw [hq, slotOf, dd_snoc R i hi]
  have up : ∀ p ∈ Z, p ∈ (xn, instObj 45 dn) :: (dn, odn) :: (τ, oτ) :: Z := fun p hp => .tail _ (.tail _ (.tail _ hp))
  subst hq'
  refine slot_end (Z := (xn, instObj 45 dn) :: (dn, odn) :: (τ, oτ) :: Z) (ys := ys ++ [.ref xn]) (kvs := stored kvs (slotOf R i : Nat) (.ref τ)) F N e m1 m2 (by rw [List.push_toArray] at m3; exact m3) m4 m5 (fun p hp => ?_) (fun p hp => ?_) n1 n2 n3 n4 ?_ ?_ hd ?_ (fun p hp => up p (s0 p hp)) (fun p hp b hb => ?_)
  · simp only [List.mem_cons] at hp
    rcases hp with rfl | rfl | rfl | hp
    · exact m6
    · exact m7
    · exact m8
    · exact sub p hp
  · simp only [List.mem_cons] at hp
    rcases hp with rfl | rfl | rfl | hp
    · exact x1.1
    · exact d1.1
    · exact t1.1
    · exact offA p hp I (.head _)
  · rw [dd_snoc R i hi]
    exact hT.mono fun p hp => .tail _ (.tail _ hp)
  · rw [outc, List.range_succ, List.map_append]
    exact (hZ.imp fun _ _ => CompAt.mono up).snoc ⟨xn, dn, odn, rfl, .head _, .tail _ (.head _), hC⟩
  · exact (hr.mono up).stored ⟨τ, oτ, rfl, .tail _ (.tail _ (.head _)), hx⟩
  · simp only [List.mem_cons] at hp
    rcases hp with rfl | rfl | rfl | hp
    · simp only [List.mem_cons, List.not_mem_nil, or_false] at hb
      rcases hb with rfl | rfl | rfl | rfl
      · exact x1.2.1
      · exact x1.2.2.1
      · exact x1.2.2.2.1
      · exact x1.2.2.2.2
    · simp only [List.mem_cons, List.not_mem_nil, or_false] at hb
      rcases hb with rfl | rfl | rfl | rfl
      · exact d1.2.1
      · exact d1.2.2.1
      · exact d1.2.2.2.1
      · exact d1.2.2.2.2
    · simp only [List.mem_cons, List.not_mem_nil, or_false] at hb
      rcases hb with rfl | rfl | rfl | rfl
      · exact t1.2.1
      · exact t1.2.2.1
      · exact t1.2.2.2.1
      · exact t1.2.2.2.2
    · exact offA p hp b (.tail _ hb)
theorem for_slot2 {Q : Flow → Shared → Prop} {env : Env} {w : World} {A : Around} {m₀ : Str → Option Value} {target : Expr} {body : List Stmt} {r : Addr} {t u v : Tok} {R : List (List Int)} {rl cl dz dc dk dt tb src : Addr} {o oz oc ok ot : Obj} {nv ny : Nat} {rest all keep : Led} {cps : List CDat} {cvs rs : List Value} (n : Nat)
    (hh : A.handled = none) (hr : IsRange s.heap r 0 (n : Int) 1 t u v) (hn : n = cps.length) (hc : cps.length = R.length) (hR : R.length ≤ 4) (F : Fr h₀ L s.heap m₀) (N : News h₀ L s.heap all)
    (e1 : m₀ (Str.ofString "rows") = some (.ref rl)) (e2 : m₀ (Str.ofString "components") = some (.ref cl)) (e3 : m₀ (Str.ofString "tables") = some (.ref tb))
    (m1 : (rl, listOf #[] nv) ∈ all) (m2 : (cl, listOf #[] ny) ∈ all) (m3 : (tb, instObj 226 dt) ∈ all) (m4 : (dt, ot) ∈ all) (hT : TablesD ot dz dc dk) (m5 : (dz, oz) ∈ all) (m6 : (dc, oc) ∈ all) (m7 : (dk, ok) ∈ all) (m8 : (src, o) ∈ all) (sub : ∀ p ∈ rest, p ∈ all)
    (hz : oz.IsDictOf (PySem.intKind PySem.Challenge.rw_ok0144_01.row.prog w) []) (off : OwnOff rest [src]) (lo : AllLt dt rest) (o1 : @LT.lt Nat _ src dt) (o2 : @LT.lt Nat _ dt tb) (o3 : @LT.lt Nat _ tb dz) (o4 : @LT.lt Nat _ dz dc) (o5 : @LT.lt Nat _ dc dk) (o6 : @LT.lt Nat _ dk rl) (o7 : @LT.lt Nat _ rl cl)
    (hk : SubL keep rest) (hcz : Zip (CompAt rest) cvs cps) (hrz : Zip (RowV rest) rs R)
    (hE : PassesOwn (model PySem.Challenge.rw_ok0144_01.row.prog w) A env E) (ht : ∀ v, letOwnedTupleGo target (.ref s.heap.objs.size) v = pure ())
    (turn : ∀ (i : Nat) (I : Addr) (t : Tok) (up uc ut us : Option Value) (vs ys : List Value) (nv ny : Nat) (oz : Obj) (kvs : List (Int × Value)) (Z : Led) (h : Heap) (tk : Nat), AtI R i → i < cps.length → vs.length ≤ i → ys.length = i → kvs.length ≤ i → i < 4 →
      TupsIn Z vs (dd (R.take i)) → Zip (CompAt Z) ys (outc cps R i) → oz.IsDictOf (PySem.intKind PySem.Challenge.rw_ok0144_01.row.prog w) kvs → TabRel Z kvs (tabs R i) → (∀ p ∈ (tb, instObj 226 dt) :: (dt, ot) :: (dc, oc) :: (dk, ok) :: rest, p ∈ Z) →
      OwnOff Z [I, src, rl, cl, dz] → @Ne Nat rl I → @Ne Nat cl I → @Ne Nat dz I → @Ne Nat src I → (tb, instObj 226 dt) ∈ Z → (dt, ot) ∈ Z → SubL keep Z → Zip (CompAt Z) cvs cps → Zip (RowV Z) rs R →
      Fr h₀ L h (fun y => if y = Str.ofString "slot" then us else if y = Str.ofString "told" then ut else if y = Str.ofString "component" then uc else if y = Str.ofString "place" then up else m₀ y) →
      News h₀ L h ((I, itR ((i + 1 : Nat) : Int) ((R.length : Int) - ((i + 1 : Nat) : Int))) :: (rl, listOf vs.toArray nv) :: (cl, listOf ys.toArray ny) :: (dz, oz) :: (src, o) :: Z) →
      wpAny (model PySem.Challenge.rw_ok0144_01.row.prog w) A (assign target env (.int (i : Int) t)) (fun _ s₂ => wpAny (model PySem.Challenge.rw_ok0144_01.row.prog w) A (execs body env) (SlotTurn w h₀ L m₀ rl cl dz src o ((tb, instObj 226 dt) :: (dt, ot) :: (dc, oc) :: (dk, ok) :: rest) cps R i I { s with heap := h, toks := tk } Q) E s₂) E { s with heap := h, toks := tk })
    (done : ∀ (up uc ut us : Option Value) (vs ys : List Value) (nv ny : Nat) (oz : Obj) (kvs : List (Int × Value)) (Z : Led) (h : Heap) (tk : Nat), Zip (CompAt Z) ys (outc cps R cps.length) → oz.IsDictOf (PySem.intKind PySem.Challenge.rw_ok0144_01.row.prog w) kvs → TabRel Z kvs (tabs R cps.length) → (∀ p ∈ (tb, instObj 226 dt) :: (dt, ot) :: (dc, oc) :: (dk, ok) :: rest, p ∈ Z) → OwnOff Z [src, rl, cl, dz] → SubL keep Z →
      Fr h₀ L h (fun y => if y = Str.ofString "slot" then us else if y = Str.ofString "told" then ut else if y = Str.ofString "component" then uc else if y = Str.ofString "place" then up else m₀ y) → News h₀ L h ((rl, listOf vs.toArray nv) :: (cl, listOf ys.toArray ny) :: (dz, oz) :: (src, o) :: Z) → Q .next { s with heap := h, toks := tk }) :
    wpAny (model PySem.Challenge.rw_ok0144_01.row.prog w) A (pyIter (.ref r)) (fun it s₂ => codeAny (model PySem.Challenge.rw_ok0144_01.row.prog w) A (.forLoop target it body [] env) (fun r s' => match r with | .ok f => Q f s' | .error e => cameBackBy (model PySem.Challenge.rw_ok0144_01.row.prog w) A env E e s') s₂) E s := by
  refine for_slot (o := o) (oz := oz) (nv := nv) (ny := ny) (rest₀ := (tb, instObj 226 dt) :: (dt, ot) :: (dc, oc) :: (dk, ok) :: rest) (cps := cps) (R := R) (rl := rl) (cl := cl) (dz := dz) (src := src) n hh hr (hn.trans hc) hR F (news_sub N fun p hp => ?_) hz (fun p hp b hb => ?_) hc hE ht
    (fun i I t up uc ut us vs ys nv ny oz kvs Z h tk a1 a2 a3 a4 a5 a6 b1 b2 b3 b4 b5 b6 c1 c2 c3 c4 c5 F N => turn i I t up uc ut us vs ys nv ny oz kvs Z h tk a1 a2 a3 a4 a5 a6 b1 b2 b3 b4 b5 (fun p hp b hb => (List.mem_cons.mp hb).elim (fun e => e ▸ c1 p hp I (.head _)) (b6 p hp b)) c2 c3 c4 c5 (b5 _ (.head _)) (b5 _ (.tail _ (.head _))) (SubL.up (fun p hp => b5 p (.tail _ (.tail _ (.tail _ (.tail _ hp))))) hk) (hcz.imp fun _ _ => CompAt.mono fun p hp => b5 p (.tail _ (.tail _ (.tail _ (.tail _ hp))))) (hrz.imp fun _ _ => RowV.mono fun p hp => b5 p (.tail _ (.tail _ (.tail _ (.tail _ hp))))) F N)
    (fun up uc ut us vs ys nv ny oz kvs Z h tk a1 a2 a3 a4 a5 F N => done up uc ut us vs ys nv ny oz kvs Z h tk a1 a2 a3 a4 a5 (SubL.up (fun p hp => a4 p (.tail _ (.tail _ (.tail _ (.tail _ hp))))) hk) F N)
  · simp only [List.mem_cons] at hp
    rcases hp with rfl | rfl | rfl | rfl | rfl | rfl | rfl | rfl | hp
    · exact m1
    · exact m2
    · exact m5
    · exact m8
    · exact m3
    · exact m4
    · exact m6
    · exact m7
    · exact sub p hp
  · simp only [List.mem_cons, List.not_mem_nil, or_false] at hp hb
    rcases hp with rfl | rfl | rfl | rfl | hp
    · rcases hb with rfl | rfl | rfl | rfl <;> (refine neN ?_; dsimp only; omega)
    · rcases hb with rfl | rfl | rfl | rfl <;> (refine neN ?_; dsimp only; omega)
    · rcases hb with rfl | rfl | rfl | rfl <;> (refine neN ?_; dsimp only; omega)
    · rcases hb with rfl | rfl | rfl | rfl <;> (refine neN ?_; dsimp only; omega)
    · have h1 : @LT.lt Nat _ p.1 dt := ktn_ltOf lo p hp
      rcases hb with rfl | rfl | rfl | rfl
      · exact off p hp _ (List.mem_singleton.mpr rfl)
      all_goals (refine neN ?_; omega)
theorem slot_done {w : World} {h₀ h : Heap} {L : Addr} {τ y tb dy cl dz dt dc dk src : Addr} {oy oz ot oc ok o : Obj} {all rest Z : Led} {f : FDat} {cps : List CDat} {R : List (List Int)} {ys : List Value} {ny : Nat} {kvs : List (Int × Value)} {adr : List Addr}
    (N : News h₀ L h all) (m1 : (τ, tupOf #[.ref y, .ref tb] 0) ∈ all) (m2 : (y, instObj 111 dy) ∈ all) (m3 : (dy, oy) ∈ all) (hF : FrameD oy f.kind f.p f.h f.w cl f.n) (m4 : (cl, listOf ys.toArray ny) ∈ all) (m5 : (dz, oz) ∈ all) (m6 : (src, o) ∈ all) (sub : ∀ p ∈ Z, p ∈ all)
    (hZ : Zip (CompAt Z) ys (outc cps R cps.length)) (hd : oz.IsDictOf (PySem.intKind PySem.Challenge.rw_ok0144_01.row.prog w) kvs) (hr : TabRel Z kvs (tabs R cps.length)) (s0 : ∀ p ∈ (tb, instObj 226 dt) :: (dt, ot) :: (dc, oc) :: (dk, ok) :: rest, p ∈ Z) (hT : TablesD ot dz dc dk)
    (hc : oc.IsDictOf (PySem.intKind PySem.Challenge.rw_ok0144_01.row.prog w) []) (hk : ok.IsDictOf (PySem.intKind PySem.Challenge.rw_ok0144_01.row.prog w) []) (l1 : (dz == sysModules) = false) (l2 : (dc == sysModules) = false) (l3 : (dk == sysModules) = false)
    (off : OwnOff Z (src :: adr)) (n1 : τ ≠ src) (n2 : y ≠ src) (n3 : dy ≠ src) (n4 : cl ≠ src) (n5 : dz ≠ src) :
    ∃ rest', Grow rest rest' src ∧ (τ, tupOf #[.ref y, .ref tb] 0) ∈ rest' ∧ FrameAt rest' y f (outc cps R cps.length) ∧ TablesAt w rest' tb (tabs R cps.length) ∧ News h₀ L h ((src, o) :: rest') := by
  have up : ∀ p ∈ Z, p ∈ (τ, tupOf #[.ref y, .ref tb] 0) :: (y, instObj 111 dy) :: (dy, oy) :: (cl, listOf ys.toArray ny) :: (dz, oz) :: Z := fun p hp => .tail _ (.tail _ (.tail _ (.tail _ (.tail _ hp))))
  refine ⟨(τ, tupOf #[.ref y, .ref tb] 0) :: (y, instObj 111 dy) :: (dy, oy) :: (cl, listOf ys.toArray ny) :: (dz, oz) :: Z, ⟨fun p hp => up p (s0 p (.tail _ (.tail _ (.tail _ (.tail _ hp))))), fun p hp b hb => ?_⟩, .head _,
    ⟨dy, oy, cl, ny, ys, .tail _ (.head _), .tail _ (.tail _ (.head _)), hF, .tail _ (.tail _ (.tail _ (.head _))), hZ.imp fun _ _ => CompAt.mono up⟩,
    ⟨dt, ot, dz, dc, dk, oz, oc, ok, kvs, up _ (s0 _ (.head _)), up _ (s0 _ (.tail _ (.head _))), hT, .tail _ (.tail _ (.tail _ (.tail _ (.head _)))), hd, hr.mono up, l1, up _ (s0 _ (.tail _ (.tail _ (.head _)))), hc, l2, up _ (s0 _ (.tail _ (.tail _ (.tail _ (.head _))))), hk, l3⟩, news_law N m6 fun p hp => ?_⟩
  · rw [List.mem_singleton.mp hb]
    simp only [List.mem_cons] at hp
    rcases hp with rfl | rfl | rfl | rfl | rfl | hp
    · exact n1
    · exact n2
    · exact n3
    · exact n4
    · exact n5
    · exact off p hp src (.head _)
  · simp only [List.mem_cons] at hp
    rcases hp with rfl | rfl | rfl | rfl | rfl | hp
    · exact m1
    · exact m2
    · exact m3
    · exact m4
    · exact m5
    · exact sub p hp
end
end SlotW
section SlotC
theorem ln_SlotC_0 : True := by
  k_with_none
  w_top off
  trivial
theorem ln_SlotC_1 : True := by
  k_with "newTuple" => (k_here; k_dflt (refine' new_tuple ?Fz9 ?Nz9 ?_ ?zz9; (case Fz9 => k_asm); (case Nz9 => k_asm); (case zz9 => first | size_fits | exact Nat.le_of_ble_eq_true rfl); k_whole); intro τ' h' F' N' l1; (try k_lt l1); (try k_sweep); (try dsimp only))
  k_with "call ref" => (k_here; (with_reducible show wpAny _ _ (call (Value.ref 45) [Value.int _ _, Value.int _ _, Value.int _ _, Value.int _ _]) _ _ _); k_dflt (refine' comp_c _ ?Bz9 ?Fz9 ?Xz9 ?Nz9 ?Tz9 ?Kz9 ?dz9 ?uz9 ?_; (case Bz9 => k_asm); (case Fz9 => k_asm); (case Xz9 => k_asm); (case Nz9 => k_asm); (case Tz9 => k_asm); (case Kz9 => first | exact rfl | assumption); (case dz9 => ktr_room); (case uz9 => ktr_units); k_whole); intro x' dx' od' h' tk' hC' F' N' l1 l2; (try k_lt l1); (try k_lt2 l2); (try k_sweep); (try dsimp only); (try k_fold))
  k_with "offne" => first | exact off_mem (by assumption) (by assumption) (by k_memK) | exact (off_mem (by assumption) (by assumption) (by k_memK)).symm
  trivial
local macro_rules | `(tactic| k_ne) => `(tactic| first | (refine neN ?_; (try dsimp only); omega) | walk_at "offne" | exact tup_ne (by with_reducible assumption) (by k_mem) (by walk_at "offne") | exact (tup_ne (by with_reducible assumption) (by k_mem) (by walk_at "offne")).symm)
local macro_rules | `(tactic| k_mem) => `(tactic| (refine memOf ?_; ktr_member))
theorem ln_SlotC_2 : True := by
  k_with "subl" => (intro p hp; (repeat (first | exact hp | refine List.Mem.tail _ ?_)))
  k_with "exec For Name Call cons nil" => (k_here; k_dflt (refine wpAny_For ?_))
  k_with "call builtin:len" => (k_here; (with_reducible show wpAny _ _ (call (Value.builtin "len") [Value.ref _]) _ _ _); k_dflt (refine' kun_lenL ?k1z9 ?k2z9 ?k3z9 ?_; (case k1z9 => exact News.isList (by k_asm) (by k_mem)); (case k2z9 => assumption); (case k3z9 => omega); k_whole))
  k_with "pyIter ref" => (k_here; (rename Fr _ _ _ _ => kF9r7); (rename News _ _ _ _ => kN9r7); (rename SubL _ _ => hk9r7); k_dflt (refine' for_slot2 _ ?hhz9 ?hrz9 ?hnz9 ?hcz9 ?hRz9 kF9r7 kN9r7 ?e1z9 ?e2z9 ?e3z9 ?m1z9 ?m2z9 ?m3z9 ?m4z9 ?hTz9 ?m5z9 ?m6z9 ?m7z9 ?m8z9 ?subz9 ?hzz9 ?offz9 ?loz9 ?o1z9 ?o2z9 ?o3z9 ?o4z9 ?o5z9 ?o6z9 ?o7z9 hk9r7 ?hczz9 ?hrzz9 ?hEz9 ?htz9 ?turnz9 ?donez9; (case hhz9 => exact rfl); (case hrz9 => assumption); (case hnz9 => exact rfl); (case hcz9 => assumption); (case hRz9 => assumption); (case e1z9 => exact rfl); (case e2z9 => exact rfl); (case e3z9 => exact rfl); (case m1z9 => k_mem); (case m2z9 => k_mem); (case m3z9 => k_mem); (case m4z9 => k_mem); (case hTz9 => exact ⟨_, _, _, _, _, _, _, rfl⟩); (case m5z9 => k_mem); (case m6z9 => k_mem); (case m7z9 => k_mem); (case offz9 => assumption); (case m8z9 => k_mem); (case subz9 => walk_at "subl"); (case hzz9 => assumption); (case loz9 => first | with_reducible assumption | exact and1 (by with_reducible assumption) | exact and2 (by with_reducible assumption) | exact and3 (by with_reducible assumption) | exact and4 (by with_reducible assumption) | exact and5 (by with_reducible assumption) | exact and6 (by with_reducible assumption) | exact and7 (by with_reducible assumption) | exact and8 (by with_reducible assumption) | exact and9 (by with_reducible assumption) | exact and10 (by with_reducible assumption) | exact and11 (by with_reducible assumption) | exact and12 (by with_reducible assumption) | exact and13 (by with_reducible assumption) | exact and14 (by with_reducible assumption) | exact and15 (by with_reducible assumption) | exact and16 (by with_reducible assumption)); (case o1z9 => omega); (case o2z9 => omega); (case o3z9 => omega); (case o4z9 => omega); (case o5z9 => omega); (case o6z9 => omega); (case o7z9 => omega); (case hczz9 => assumption); (case hrzz9 => assumption); (case htz9 => intro _; rfl); (case' turnz9 => intro i' I' t' up' uc' ut' us' vs' ys' nv' ny' oz' kvs' Z' h' tk' a1' a2' a3' a4' a5' a6' b1' b2' b3' b4' b5' c1' c2' c3' c4' c5' d1' d2' hkS' hcz' hrz' F' N'; (obtain ⟨s1', s2', s3', s4', _⟩ := hkS'); (rename OwnOff _ [_] => o9r7; clear o9r7)); (case' donez9 => intro up' uc' ut' us' vs' ys' nv' ny' oz' kvs' Z' h' tk' a1' a2' a3' a4' a5' hkS' F' N'; (obtain ⟨s1', s2', s3', s4', _⟩ := hkS')); k_whole))
  k_with "subscriptTail" => (k_here; (with_reducible show wpAny _ _ (subscriptTail _ _ (Value.ref _) (Value.int _ _)) _ _ _); k_dflt (first | (refine' comp_item ?Nz9 ?lz9 ?Zz9 ?iz9 ?h4z9 ?_; (case Nz9 => k_asm); (case lz9 => k_mem); (case Zz9 => assumption); (case iz9 => assumption); (case h4z9 => omega)) | (refine' div_item ?Nz9 ?lz9 ?dz9 ?Zz9 ?iz9 ?_; (case Nz9 => k_asm); (case lz9 => k_mem); (case dz9 => assumption); (case Zz9 => assumption); (case iz9 => assumption))); (first | (intro x' d' H1' H2' H3' H4' y1' y2' y3' y4' z1' z2' z3' z4' n' hm1' hm2') | (intro r' o' hm1' hR')))
  k_with "call type:tuple" => (k_here; (with_reducible show wpAny _ _ (call (Value.type "tuple") [Value.ref _]) _ _ _); k_dflt (refine' tuple_at ?Fz9 ?Nz9 ?mz9 ?Rz9 ?_; (case Fz9 => k_asm); (case Nz9 => k_asm); (case mz9 => k_mem); (case Rz9 => assumption); k_whole); intro τ' oτ' h' hT' F' N' l1 hA9'r9; (try k_sweep); (try dsimp only))
  k_with "exec If" => (k_here; (fail_if_success (rename RowsMark _ => mk9r10)); (rename TupsIn _ _ _ => hK9r10); k_dflt (refine' rows_if ?e1z9 ?e2z9 ?Fz9 ?Nz9 ?Uz9 hK9r10 ?bz9 ?tz9 ?xz9 ?walkz9 ?retz9; (case Fz9 => k_asm); (case Nz9 => k_asm); (case e1z9 => exact rfl); (case e2z9 => exact rfl); (case Uz9 => k_updF); (case bz9 => assumption); (case tz9 => k_mem); (case xz9 => assumption)))
  k_with "compareOp NotIn ref ref" => (k_here; (rename TupsIn _ _ _ => hK9r11); (rename TupO _ _ => hx9r11); k_dflt (refine' notin_led ?Nz9 hK9r11 ?subz9 ?tz9 hx9r11 ?lz9 ?uz9 ?_; (case Nz9 => k_asm); (case subz9 => walk_at "subl"); (case tz9 => k_mem); (case lz9 => k_mem); (case uz9 => ktr_units); k_whole))
  k_with "call builtin:list.index" => (k_here; (rename TupsIn _ _ _ => hK9r12); (rename TupO _ _ => hx9r12); have hlen9r12 := hK9r12.1; k_dflt (refine' index_rows ?Nz9 hK9r12 ?subz9 ?tz9 hx9r12 ?lz9 mem_dd ?h4z9 ?uz9 ?_; (case Nz9 => k_asm); (case subz9 => walk_at "subl2"); (case tz9 => k_mem); (case lz9 => k_mem); (case h4z9 => omega); (case uz9 => ktr_units); k_whole))
  k_with "setItem ref int" => (k_here; k_dflt (refine' kda_set (knd := PySem.intKind _ _) ?Fz9 ?Nz9 ?Uz9 ?dz9 (intKind_is _ _ _ _) ?zz9 ?_; (case Fz9 => k_asm); (case Nz9 => k_asm); (case Uz9 => k_updF); (case dz9 => k_asm); (case zz9 => rw [sizeLine_eq]; omega); k_whole); intro h' o' F' N' hd'; (try dsimp only at N'); (try k_sweep))
  k_with "call builtin:list.append" => (k_here; (with_reducible show wpAny _ _ (call (Value.builtin _) [Value.ref _, _]) _ _ _); k_dflt (refine' append_K ?k1z9 ?k2z9 ?k3z9 ?_ ?zz9; (case k1z9 => k_asm); (case k2z9 => k_asm); (case k3z9 => k_upd); (case zz9 => (rw [List.size_toArray, sizeLine_eq]; omega)); k_whole); intro h' F' N'; (try k_sweep))
  k_with "subl2" => (refine List.forall_mem_cons.mpr ⟨by k_mem, ?_⟩; walk_at "subl")
  k_with "RowsT" => (k_here; (rename Fr _ _ _ _ => kF9r16); (rename News _ _ _ _ => kN9r16); (rename TupsIn _ _ _ => hK9r16); k_dflt (first | exact rowsT_old hK9r16 (by assumption) kF9r16 kN9r16 (Classical.not_not.mp (by assumption)) | exact rowsT_new hK9r16 (by assumption) (by assumption) kF9r16 kN9r16 (by assumption)))
  k_with "ne5" => refine ⟨by k_ne, by k_ne, by k_ne, by k_ne, by k_ne⟩
  k_with "SlotTurn" => (k_here; (rename Fr _ _ _ _ => kF9r18); (rename News _ _ _ _ => kN9r18); k_dflt (refine' slot_fin kF9r18 kN9r18 ?hiz9 ?ez9 ?m1z9 ?m2z9 ?m3z9 ?m4z9 ?m5z9 ?m6z9 ?m7z9 ?m8z9 ?subz9 ?offAz9 ?n1z9 ?n2z9 ?n3z9 ?n4z9 ?x1z9 ?d1z9 ?t1z9 ?hTz9 ?hxz9 ?hZz9 ?hqz9 ?hCz9 ?hdz9 ?hrz9 ?s0z9; (case hiz9 => assumption); (case ez9 => (intro y h1 h2 h3 h4; simp only [if_neg h1, if_neg h2, if_neg h3, if_neg h4])); (case m1z9 => k_mem); (case m2z9 => k_mem); (case m3z9 => k_mem); (case m4z9 => k_mem); (case m5z9 => k_mem); (case m6z9 => k_mem); (case m7z9 => k_mem); (case hTz9 => assumption); (case m8z9 => k_mem); (case subz9 => walk_at "subl"); (case offAz9 => assumption); (case n1z9 => assumption); (case n2z9 => assumption); (case n3z9 => assumption); (case n4z9 => assumption); (case x1z9 => walk_at "ne5"); (case d1z9 => walk_at "ne5"); (case t1z9 => walk_at "ne5"); (case hxz9 => assumption); (case hZz9 => assumption); (case hdz9 => assumption); (case hqz9 => exact rfl); (case hCz9 => assumption); (case hrz9 => assumption); (case s0z9 => assumption)))
  trivial

set_option maxHeartbeats 8000000 in
theorem slot_c (w : World) : ∀ {loose : List Str} {mean : ExcName → Option Value} {mg mb : Str → Option Value} {dp un : Nat} {gd : Option (List Code)} {cn : Str} {cs : Scope} {a : Addr} {ccd : Value} {cl : List (Str × Addr)} {outer : List Env} {A₀ : Around} {base h₀ : Heap} {L : Addr} {m : Str → Option Value} {s : Shared} {Q E : Value → Shared → Prop} {x dx lst d src : Addr} {od odq o : Obj} {f : FDat} {cps : List CDat} {R : List (List Int)} {nl : Nat} {cvs rs : List Value} {rest : Led},
    Below A₀ base outer h₀ → Fr h₀ L s.heap m → (Mine.kv.heap_1_1 w.params).In h₀ → News h₀ L s.heap ((src, o) :: rest) → Top Mine.kv.view_1_2 loose mean mg mb h₀ → cs.kind = .function → OwnOff rest [src] → SubL [(x, instObj 111 dx), (dx, od), (lst, listOf cvs.toArray nl), (d, odq)] rest → FrameD od f.kind f.p f.h f.w lst f.n → (cvs.toArray.size : Int) = (cps.length : Int) → Zip (CompAt rest) cvs cps → odq.IsDictOf (PySem.intKind PySem.Challenge.rw_ok0144_01.row.prog w) (numd 0 rs) → Zip (RowV rest) rs R → cps.length = R.length → R.length ≤ 4 → dp + 20 < recursionLimit → un + 300 < cLine →
    (∀ (tu y tb : Addr) (rest' : Led) (h' : Heap) (tk' : Nat), Grow rest rest' src → (tu, tupOf #[.ref y, .ref tb] 0) ∈ rest' → FrameAt rest' y f (outc cps R cps.length) → TablesAt w rest' tb (tabs R cps.length) → Fr h₀ L h' m → News h₀ L h' ((src, o) :: rest') → Q (.ref tu) { s with heap := h', toks := tk' }) →
    wpAny (model PySem.Challenge.rw_ok0144_01.row.prog w) (ktrTop dp un gd cn cs L a ccd cl outer) (call (.ref 286) [.ref x, .ref d]) Q E s := by
  k_fill
  intro loose mean mg mb dp un gd cn cs a ccd cl outer A₀ base h₀ L m s Q E x dx lst d src od odq o f cps R nl cvs rs rest B F X N T hk off hsub hF hsz hcz hdq hrz hlen hR4 hd hu hret
  obtain ⟨m1, m2, m3, m4, _⟩ := id hsub
  obtain ⟨_, _, _, _, _, _, _, _, _, _, _, _, _, _, _, _, _, _, rfl⟩ := hF
  refine wpAny_call ?_
  k_dflt cell_enter
  k_steps
  (rename Fr _ _ _ _ => kF9); (rename News _ _ _ _ => kN9)
  (rename TabRel _ _ _ => hr9)
  (rename Zip (CompAt _) _ (outc _ _ _) => hZ9)
  obtain ⟨rest', g1, g2, g3, g4, g5⟩ : ∃ rest', Grow rest rest' src ∧ (_, tupOf #[.ref _, .ref _] 0) ∈ rest' ∧ FrameAt rest' _ f (outc cps R cps.length) ∧ TablesAt w rest' _ (tabs R cps.length) ∧ News _ _ _ ((src, o) :: rest') := by
    k_dflt (refine' slot_done (f := f) kN9 ?m1 ?m2 ?m3 ?hF ?m4 ?m5 ?m6 ?sub hZ9 ?hd hr9 ?s0 ?hT ?hc ?hk ?l1 ?l2 ?l3 ?off ?n1 ?n2 ?n3 ?n4 ?n5)
    (case m1 => k_mem)
    (case m2 => k_mem)
    (case m3 => k_mem)
    (case hF => exact ⟨_, _, _, _, _, _, _, _, _, _, _, _, _, _, _, _, _, _, rfl⟩)
    (case m4 => k_mem)
    (case s0 => assumption)
    (case hT => exact ⟨_, _, _, _, _, _, _, rfl⟩)
    (case m5 => k_mem)
    (case hd => assumption)
    (case sub => walk_at "subl")
    (case hc => assumption)
    (case hk => assumption)
    (case l1 => assumption)
    (case l2 => assumption)
    (case l3 => assumption)
    (case m6 => k_mem)
    (case off => assumption)
    (case n1 => k_ne)
    (case n2 => k_ne)
    (case n3 => k_ne)
    (case n4 => k_ne)
    (case n5 => k_ne)
  exact hret _ _ _ _ _ _ g1 g2 g3 g4 kF9 g5
end SlotC
section Uses
theorem slot_g {w : World} {loose : List Str} {mean : ExcName → Option Value} {mg mb : Str → Option Value} {dp un : Nat} {gd : Option (List Code)} {cn : Str} {cs : Scope} {a : Addr} {ccd : Value} {cl : List (Str × Addr)} {outer : List Env} {A₀ : Around} {base h₀ : Heap} {L : Addr} {m : Str → Option Value} {s : Shared} {Q E : Value → Shared → Prop} {src : Addr} {o : Obj} {rest l l2 : Led} {x d : Addr} {f : FDat} {cps : List CDat} {R : List (List Int)} (B : Below A₀ base outer h₀) (F : Fr h₀ L s.heap m) (X : (Mine.kv.heap_1_1 w.params).In h₀) (N : News h₀ L s.heap ((src, o) :: rest)) (T : Top Mine.kv.view_1_2 loose mean mg mb h₀) (hk : cs.kind = .function)
    (off : OwnOff rest [src]) (fr0 : FrameAt l x f cps) (sub : ∀ p ∈ l, p ∈ rest) (dv0 : DivAt w l2 d R) (sub2 : ∀ p ∈ l2, p ∈ rest) (hc : cps.length = R.length) (h4 : cps.length ≤ 4) (hd : dp + 20 < recursionLimit) (hu : un + 300 < cLine)
    (ret : ∀ (tu y tb : Addr) (rest' : Led) (h' : Heap) (tk' : Nat), Grow rest rest' src → (tu, tupOf #[.ref y, .ref tb] 0) ∈ rest' → FrameAt rest' y f (outc cps R cps.length) → TablesAt w rest' tb (tabs R cps.length) → Fr h₀ L h' m → News h₀ L h' ((src, o) :: rest') → Q (.ref tu) { s with heap := h', toks := tk' }) :
    wpAny (model PySem.Challenge.rw_ok0144_01.row.prog w) (ktrTop dp un gd cn cs L a ccd cl outer) (call (.ref 286) [.ref x, .ref d]) Q E s := by
  obtain ⟨dx, od, lst, nl, cvs, m1, m2, hF, m3, Z⟩ := fr0.mono sub
  obtain ⟨odq, rs, m4, _, hD, Z2⟩ := dv0.mono sub2
  refine slot_c w B F X N T hk off ⟨m1, m2, m3, m4, trivial⟩ hF ?_ Z hD Z2 hc (by omega) hd hu ret
  rw [List.size_toArray, Z.len]
theorem numb_g {w : World} {loose : List Str} {mean : ExcName → Option Value} {mg mb : Str → Option Value} {dp un : Nat} {gd : Option (List Code)} {cn : Str} {cs : Scope} {a : Addr} {ccd : Value} {cl : List (Str × Addr)} {outer : List Env} {A₀ : Around} {base h₀ : Heap} {L : Addr} {m : Str → Option Value} {s : Shared} {Q E : Value → Shared → Prop} {src rl : Addr} {o : Obj} {rest l : Led} {vs : List Value} {n0 : Nat} {R : List (List Int)} (B : Below A₀ base outer h₀) (F : Fr h₀ L s.heap m) (X : (Mine.kv.heap_1_1 w.params).In h₀) (N : News h₀ L s.heap ((src, o) :: rest)) (T : Top Mine.kv.view_1_2 loose mean mg mb h₀) (hk : cs.kind = .function)
    (off : OwnOff rest [src]) (hT : TupsIn l vs R) (hm : (rl, listOf vs.toArray n0) ∈ l) (sub : ∀ p ∈ l, p ∈ rest) (h4 : R.length ≤ 4) (hd : dp + 10 < recursionLimit) (hu : un + 200 < cLine)
    (ret : ∀ (fl : Addr) (ys : List Value) (nn : Nat) (rest' : Led) (h' : Heap) (tk' : Nat), Grow rest rest' src → IntsAre ys ((List.range R.length).map (numb R)) → (fl, listOf ys.toArray nn) ∈ rest' → Fr h₀ L h' m → News h₀ L h' ((src, o) :: rest') → Q (.ref fl) { s with heap := h', toks := tk' }) :
    wpAny (model PySem.Challenge.rw_ok0144_01.row.prog w) (ktrTop dp un gd cn cs L a ccd cl outer) (call (.ref 345) [.ref rl]) Q E s := by
  refine numb_c w (rl := rl) (vs := vs) (n0 := n0) (R := R) (news := (src, o) :: rest) B F X (fun p hp => ?_) T hk (hT.mono fun p hp => .tail _ (sub p hp)) h4 (by rw [hT.1]; omega) hd hu fun fl ys nn h' tk' hI F' N' hlt hal => ret fl ys nn ((fl, listOf ys.toArray nn) :: rest) h' tk' ⟨fun p hp => .tail _ hp, fun p hp b hb => ?_⟩ hI (.head _) F' (news_law N' (by k_mem) fun p hp => ?_)
  · rcases List.mem_cons.mp hp with rfl | hp
    · exact N _ (.tail _ (sub _ hm))
    · exact N p hp
  · rw [List.mem_singleton.mp hb]
    rcases List.mem_cons.mp hp with rfl | hp
    · exact fun e => absurd (e ▸ hal.1) (Nat.lt_irrefl _)
    · exact off p hp src (.head _)
  · rcases List.mem_cons.mp hp with rfl | hp
    · exact .head _
    · exact .tail _ (.tail _ (.tail _ hp))
end Uses
section LawU
theorem news_in {h₀ h : Heap} {L src c1 c2 c3 : Addr} {o o1 o2 o3 : Obj} {rest : Led} (N : News h₀ L h ((c1, o1) :: (c2, o2) :: (c3, o3) :: (src, o) :: rest)) : News h₀ L h ((src, o) :: (c1, o1) :: (c2, o2) :: (c3, o3) :: rest) := news_sub N fun p hp => by
  simp only [List.mem_cons] at hp ⊢
  rcases hp with hp | hp | hp | hp | hp <;> simp only [hp, true_or, or_true]
theorem off_in {src c1 c2 c3 : Addr} {o1 o2 o3 : Obj} {rest : Led} (q1 : c1 ≠ src) (q2 : c2 ≠ src) (q3 : c3 ≠ src) (off : OwnOff rest [src, c1, c2, c3]) : OwnOff ((c1, o1) :: (c2, o2) :: (c3, o3) :: rest) [src] := fun p hp b hb => by
  rw [List.mem_singleton.mp hb]
  simp only [List.mem_cons] at hp
  rcases hp with rfl | rfl | rfl | hp
  · exact q1
  · exact q2
  · exact q3
  · exact off p hp src (.head _)
theorem up_in {l rest : Led} {c1 c2 c3 : Addr} {o1 o2 o3 : Obj} (u : Up l rest) : Up l ((c1, o1) :: (c2, o2) :: (c3, o3) :: rest) := fun p hp n => .tail _ (.tail _ (.tail _ (u p hp n)))
/-- the cells taken out of what a call hands back -/
theorem cells_out {h₀ h : Heap} {L src c1 c2 c3 : Addr} {o o1 o2 o3 : Obj} {v1 v2 v3 : Option Value} {rest rest₁ : Led} (k1 : o1.data = .cell v1) (k2 : o2.data = .cell v2) (k3 : o3.data = .cell v3) (oc : OwnOff rest [src, c1, c2, c3]) (G : Grow ((c1, o1) :: (c2, o2) :: (c3, o3) :: rest) rest₁ src) (N : News h₀ L h ((src, o) :: rest₁)) :
    ∃ rest', Up rest rest' ∧ OwnOff rest' [src, c1, c2, c3] ∧ Up rest₁ rest' ∧ News h₀ L h ((c1, o1) :: (c2, o2) :: (c3, o3) :: (src, o) :: rest') := by
  have m1 := G.sub _ (.head _)
  have m2 := G.sub _ (.tail _ (.head _))
  have m3 := G.sub _ (.tail _ (.tail _ (.head _)))
  have up : Up rest₁ (rest₁.filter fun p => decide (p.1 ≠ c1 ∧ p.1 ≠ c2 ∧ p.1 ≠ c3)) := fun p hp n => by
    have same : ∀ {c : Addr} {oc : Obj} {v : Option Value}, (c, oc) ∈ rest₁ → oc.data = .cell v → p.1 ≠ c := fun {c oc v} hm hd e => by
      have h1 := (N _ (.tail _ hp)).1
      have h2 := (N _ (.tail _ hm)).1
      rw [e] at h1
      have h3 : p.2 = oc := Option.some.inj (h1.symm.trans h2)
      exact n v (h3 ▸ hd)
    exact List.mem_filter.mpr ⟨hp, decide_eq_true ⟨same m1 k1, same m2 k2, same m3 k3⟩⟩
  refine ⟨rest₁.filter fun p => decide (p.1 ≠ c1 ∧ p.1 ≠ c2 ∧ p.1 ≠ c3), fun p hp n => up p (G.sub p (.tail _ (.tail _ (.tail _ hp)))) n, fun p hp b hb => ?_, up, fun p hp => ?_⟩
  · obtain ⟨h1, h2⟩ := List.mem_filter.mp hp
    obtain ⟨a, b', c⟩ := of_decide_eq_true h2
    simp only [List.mem_cons, List.not_mem_nil, or_false] at hb
    rcases hb with rfl | rfl | rfl | rfl
    · exact G.off p h1 _ (.head _)
    · exact a
    · exact b'
    · exact c
  · simp only [List.mem_cons] at hp
    rcases hp with rfl | rfl | rfl | rfl | hp
    · exact N _ (.tail _ m1)
    · exact N _ (.tail _ m2)
    · exact N _ (.tail _ m3)
    · exact N _ (.head _)
    · exact N _ (.tail _ (List.mem_filter.mp hp).1)
theorem frm_l {w : World} {loose : List Str} {mean : ExcName → Option Value} {mg mb : Str → Option Value} {dp un : Nat} {gd : Option (List Code)} {cn : Str} {cs : Scope} {a : Addr} {ccd : Value} {cl : List (Str × Addr)} {outer : List Env} {A₀ : Around} {base h₀ : Heap} {L : Addr} {m : Str → Option Value} {s : Shared} {Q E : Value → Shared → Prop} {src c1 c2 c3 : Addr} {o o1 o2 o3 : Obj} {v1 v2 v3 : Option Value} {rest : Led} (B : Below A₀ base outer h₀) (F : Fr h₀ L s.heap m) (X : (Mine.kv.heap_1_1 w.params).In h₀) (N : News h₀ L s.heap ((c1, o1) :: (c2, o2) :: (c3, o3) :: (src, o) :: rest)) (T : Top Mine.kv.view_1_2 loose mean mg mb h₀) (hk : cs.kind = .function) (k1 : o1.data = .cell v1) (k2 : o2.data = .cell v2) (k3 : o3.data = .cell v3) (q1 : c1 ≠ src) (q2 : c2 ≠ src) (q3 : c3 ≠ src) (off : OwnOff rest [src, c1, c2, c3]) (S : SrcObj o) (hd : dp + 10 < recursionLimit) (hu : un + 100 < cLine)
    (ret : ∀ (x : Addr) (rest' : Led) (f : FDat) (cps : List CDat) (o' : Obj) (h' : Heap) (tk' : Nat), Up rest rest' → OwnOff rest' [src, c1, c2, c3] →  FrameAt rest' x f cps → f.kind ∈ kinds → f.n ∈ [(2 : Int), 3] → 1 ≤ cps.length → cps.length ≤ 4 → idents cps → SrcObj o' → Fr h₀ L h' m → News h₀ L h' ((c1, o1) :: (c2, o2) :: (c3, o3) :: (src, o') :: rest') →  Q (.ref x) { s with heap := h', toks := tk' }) :
    wpAny (model PySem.Challenge.rw_ok0144_01.row.prog w) (ktrTop dp un gd cn cs L a ccd cl outer) (call (.ref 328) [.ref src]) Q E s :=
  frm_g B F X (news_in N) T hk (off_in q1 q2 q3 off) S hd hu fun x rest₁ f cps o' h' tk' G a1 a2 a3 a4 a5 a6 a7 F' N' => by
    obtain ⟨rest', u1, u2, u3, N''⟩ := cells_out k1 k2 k3 off G N'
    exact ret x rest' f cps o' h' tk' u1 u2 (a1.up u3) a2 a3 a4 a5 a6 a7 F' N''
theorem div_l {w : World} {loose : List Str} {mean : ExcName → Option Value} {mg mb : Str → Option Value} {dp un : Nat} {gd : Option (List Code)} {cn : Str} {cs : Scope} {a : Addr} {ccd : Value} {cl : List (Str × Addr)} {outer : List Env} {A₀ : Around} {base h₀ : Heap} {L : Addr} {m : Str → Option Value} {s : Shared} {Q E : Value → Shared → Prop} {src c1 c2 c3 : Addr} {o o1 o2 o3 : Obj} {v1 v2 v3 : Option Value} {rest : Led} {l : Led} {x : Addr} {f : FDat} {cps : List CDat} (B : Below A₀ base outer h₀) (F : Fr h₀ L s.heap m) (X : (Mine.kv.heap_1_1 w.params).In h₀) (N : News h₀ L s.heap ((c1, o1) :: (c2, o2) :: (c3, o3) :: (src, o) :: rest)) (T : Top Mine.kv.view_1_2 loose mean mg mb h₀) (hk : cs.kind = .function) (k1 : o1.data = .cell v1) (k2 : o2.data = .cell v2) (k3 : o3.data = .cell v3) (q1 : c1 ≠ src) (q2 : c2 ≠ src) (q3 : c3 ≠ src) (off : OwnOff rest [src, c1, c2, c3]) (S : SrcObj o) (fr0 : FrameAt l x f cps) (sub : Up l rest) (hn : f.n ∈ [(2 : Int), 3]) (h1 : 1 ≤ cps.length) (h4 : cps.length ≤ 4) (hd : dp + 10 < recursionLimit) (hu : un + 100 < cLine)
    (ret : ∀ (d : Addr) (rest' : Led) (R : List (List Int)) (o' : Obj) (h' : Heap) (tk' : Nat), Up rest rest' → OwnOff rest' [src, c1, c2, c3] →  DivAt w rest' d R → R.length = cps.length → SrcObj o' → Fr h₀ L h' m → News h₀ L h' ((c1, o1) :: (c2, o2) :: (c3, o3) :: (src, o') :: rest') →  Q (.ref d) { s with heap := h', toks := tk' }) :
    wpAny (model PySem.Challenge.rw_ok0144_01.row.prog w) (ktrTop dp un gd cn cs L a ccd cl outer) (call (.ref 340) [.ref src, .ref x]) Q E s :=
  div_g B F X (news_in N) T hk (off_in q1 q2 q3 off) S (fr0.up (up_in sub)) (fun _ h => h) hn h1 h4 hd hu fun d rest₁ R o' h' tk' G a1 a2 a3 F' N' => by
    obtain ⟨rest', u1, u2, u3, N''⟩ := cells_out k1 k2 k3 off G N'
    exact ret d rest' R o' h' tk' u1 u2 (a1.up u3) a2 a3 F' N''
theorem slot_l {w : World} {loose : List Str} {mean : ExcName → Option Value} {mg mb : Str → Option Value} {dp un : Nat} {gd : Option (List Code)} {cn : Str} {cs : Scope} {a : Addr} {ccd : Value} {cl : List (Str × Addr)} {outer : List Env} {A₀ : Around} {base h₀ : Heap} {L : Addr} {m : Str → Option Value} {s : Shared} {Q E : Value → Shared → Prop} {src c1 c2 c3 : Addr} {o o1 o2 o3 : Obj} {v1 v2 v3 : Option Value} {rest : Led} {l l2 : Led} {x d : Addr} {f : FDat} {cps : List CDat} {R : List (List Int)} (B : Below A₀ base outer h₀) (F : Fr h₀ L s.heap m) (X : (Mine.kv.heap_1_1 w.params).In h₀) (N : News h₀ L s.heap ((c1, o1) :: (c2, o2) :: (c3, o3) :: (src, o) :: rest)) (T : Top Mine.kv.view_1_2 loose mean mg mb h₀) (hk : cs.kind = .function) (k1 : o1.data = .cell v1) (k2 : o2.data = .cell v2) (k3 : o3.data = .cell v3) (q1 : c1 ≠ src) (q2 : c2 ≠ src) (q3 : c3 ≠ src) (off : OwnOff rest [src, c1, c2, c3]) (fr0 : FrameAt l x f cps) (sub : Up l rest) (dv0 : DivAt w l2 d R) (sub2 : Up l2 rest) (hc : cps.length = R.length) (h4 : cps.length ≤ 4) (hd : dp + 20 < recursionLimit) (hu : un + 300 < cLine)
    (ret : ∀ (tu y tb : Addr) (rest' : Led) (h' : Heap) (tk' : Nat), Up rest rest' → OwnOff rest' [src, c1, c2, c3] →  (tu, tupOf #[.ref y, .ref tb] 0) ∈ rest' → FrameAt rest' y f (outc cps R cps.length) → TablesAt w rest' tb (tabs R cps.length) → Fr h₀ L h' m → News h₀ L h' ((c1, o1) :: (c2, o2) :: (c3, o3) :: (src, o) :: rest') →  Q (.ref tu) { s with heap := h', toks := tk' }) :
    wpAny (model PySem.Challenge.rw_ok0144_01.row.prog w) (ktrTop dp un gd cn cs L a ccd cl outer) (call (.ref 286) [.ref x, .ref d]) Q E s :=
  slot_g B F X (news_in N) T hk (off_in q1 q2 q3 off) (fr0.up (up_in sub)) (fun _ h => h) (dv0.up (up_in sub2)) (fun _ h => h) hc h4 hd hu fun tu y tb rest₁ h' tk' G a1 a2 a3 F' N' => by
    obtain ⟨rest', u1, u2, u3, N''⟩ := cells_out k1 k2 k3 off G N'
    exact ret tu y tb rest' h' tk' u1 u2 (u3 _ a1 nc_tup) (a2.up u3) (a3.up u3) F' N''
theorem numb_l {w : World} {loose : List Str} {mean : ExcName → Option Value} {mg mb : Str → Option Value} {dp un : Nat} {gd : Option (List Code)} {cn : Str} {cs : Scope} {a : Addr} {ccd : Value} {cl : List (Str × Addr)} {outer : List Env} {A₀ : Around} {base h₀ : Heap} {L : Addr} {m : Str → Option Value} {s : Shared} {Q E : Value → Shared → Prop} {src c1 c2 c3 : Addr} {o o1 o2 o3 : Obj} {v1 v2 v3 : Option Value} {rest : Led} {rl : Addr} {l : Led} {vs : List Value} {n0 : Nat} {R : List (List Int)} (B : Below A₀ base outer h₀) (F : Fr h₀ L s.heap m) (X : (Mine.kv.heap_1_1 w.params).In h₀) (N : News h₀ L s.heap ((c1, o1) :: (c2, o2) :: (c3, o3) :: (src, o) :: rest)) (T : Top Mine.kv.view_1_2 loose mean mg mb h₀) (hk : cs.kind = .function) (k1 : o1.data = .cell v1) (k2 : o2.data = .cell v2) (k3 : o3.data = .cell v3) (q1 : c1 ≠ src) (q2 : c2 ≠ src) (q3 : c3 ≠ src) (off : OwnOff rest [src, c1, c2, c3]) (hT : TupsIn l vs R) (hm : (rl, listOf vs.toArray n0) ∈ l) (sub : Up l rest) (h4 : R.length ≤ 4) (hd : dp + 10 < recursionLimit) (hu : un + 200 < cLine)
    (ret : ∀ (fl : Addr) (ys : List Value) (nn : Nat) (rest' : Led) (h' : Heap) (tk' : Nat), Up rest rest' → OwnOff rest' [src, c1, c2, c3] →  IntsAre ys ((List.range R.length).map (numb R)) → (ys.toArray.size : Int) = (R.length : Int) → (fl, listOf ys.toArray nn) ∈ rest' → Fr h₀ L h' m → News h₀ L h' ((c1, o1) :: (c2, o2) :: (c3, o3) :: (src, o) :: rest') →  Q (.ref fl) { s with heap := h', toks := tk' }) :
    wpAny (model PySem.Challenge.rw_ok0144_01.row.prog w) (ktrTop dp un gd cn cs L a ccd cl outer) (call (.ref 345) [.ref rl]) Q E s :=
  numb_g B F X (news_in N) T hk (off_in q1 q2 q3 off) (hT.up (up_in sub)) (up_in sub _ hm nc_list) (fun _ h => h) h4 hd hu fun fl ys nn rest₁ h' tk' G a1 a2 F' N' => by
    obtain ⟨rest', u1, u2, u3, N''⟩ := cells_out k1 k2 k3 off G N'
    exact ret fl ys nn rest' h' tk' u1 u2 a1 (by rw [List.size_toArray, a1.length]; simp) (u3 _ a2 nc_list) F' N''
theorem row_l {w : World} {loose : List Str} {mean : ExcName → Option Value} {mg mb : Str → Option Value} {dp un : Nat} {gd : Option (List Code)} {cn : Str} {cs : Scope} {a : Addr} {ccd : Value} {cl : List (Str × Addr)} {outer : List Env} {A₀ : Around} {base h₀ : Heap} {L : Addr} {m : Str → Option Value} {s : Shared} {Q E : Value → Shared → Prop} {src c1 c2 c3 : Addr} {o o1 o2 o3 : Obj} {v1 v2 v3 : Option Value} {rest : Led} {l : Led} {x : Addr} {f : FDat} {cps : List CDat} (B : Below A₀ base outer h₀) (F : Fr h₀ L s.heap m) (X : (Mine.kv.heap_1_1 w.params).In h₀) (N : News h₀ L s.heap ((c1, o1) :: (c2, o2) :: (c3, o3) :: (src, o) :: rest)) (T : Top Mine.kv.view_1_2 loose mean mg mb h₀) (hk : cs.kind = .function) (k1 : o1.data = .cell v1) (k2 : o2.data = .cell v2) (k3 : o3.data = .cell v3) (q1 : c1 ≠ src) (q2 : c2 ≠ src) (q3 : c3 ≠ src) (off : OwnOff rest [src, c1, c2, c3]) (fr0 : FrameAt l x f cps) (sub : Up l rest) (h1 : 1 ≤ cps.length) (h4 : cps.length ≤ 4) (hd : dp + 10 < recursionLimit) (hu : un + 100 < cLine)
    (ret : ∀ (r : Addr) (rest' : Led) (h' : Heap) (tk' : Nat), Up rest rest' → OwnOff rest' [src, c1, c2, c3] →  RowNew src rest rest' r f cps → RowAt rest' r f cps → Fr h₀ L h' m → News h₀ L h' ((c1, o1) :: (c2, o2) :: (c3, o3) :: (src, o) :: rest') →  Q (.ref r) { s with heap := h', toks := tk' }) :
    wpAny (model PySem.Challenge.rw_ok0144_01.row.prog w) (ktrTop dp un gd cn cs L a ccd cl outer) (call (.ref 333) [.ref x]) Q E s :=
  row_g B F X (news_in N) T hk (off_in q1 q2 q3 off) (fr0.up (up_in sub)) (fun _ h => h) h1 h4 hd hu fun r rest₁ h' tk' a1 G F' N' => by
    obtain ⟨ml, E, vs, t1, t2, t3, t4, t5, nr, nm, rfl, d1, d2, d3, d4, d5, d6⟩ := a1
    have hN : RowNew src rest ((r, listOf #[.str f.kind t1, .int f.p t2, .int f.h t3, .int f.w t4, .int f.n t5, .ref ml] nr) :: (ml, listOf (List.toArray vs) nm) :: (E ++ rest)) r f cps :=
      ⟨ml, E, vs, t1, t2, t3, t4, t5, nr, nm, rfl, d1, d2, d3, d4, fun p hp => d5 p (.tail _ (.tail _ (.tail _ hp))), fun p hp => ⟨(d6 p hp).1, (d6 p hp).2.1, (d6 p hp).2.2.1, fun q hq => (d6 p hp).2.2.2 q (.tail _ (.tail _ (.tail _ hq)))⟩⟩
    have e1 := d5 _ (.head _)
    have e2 := d5 _ (.tail _ (.head _))
    have e3 := d5 _ (.tail _ (.tail _ (.head _)))
    refine ret r _ h' tk' (fun p hp _ => .tail _ (.tail _ (List.mem_append_right _ hp))) (fun p hp b hb => ?_) hN hN.row F' (news_sub N' fun p hp => ?_)
    · simp only [List.mem_cons, List.not_mem_nil, or_false, List.mem_append] at hp hb
      rcases hp with rfl | rfl | hp | hp
      · rcases hb with rfl | rfl | rfl | rfl
        · exact d2
        · exact Ne.symm e1.1
        · exact Ne.symm e2.1
        · exact Ne.symm e3.1
      · rcases hb with rfl | rfl | rfl | rfl
        · exact d3
        · exact Ne.symm e1.2
        · exact Ne.symm e2.2
        · exact Ne.symm e3.2
      · have z := d6 p hp
        rcases hb with rfl | rfl | rfl | rfl
        · exact z.1
        · exact Ne.symm (z.2.2.2 _ (.head _))
        · exact Ne.symm (z.2.2.2 _ (.tail _ (.head _)))
        · exact Ne.symm (z.2.2.2 _ (.tail _ (.tail _ (.head _))))
      · exact off p hp b (by simp only [List.mem_cons, List.not_mem_nil, or_false]; exact hb)
    · simp only [List.mem_cons, List.mem_append] at hp ⊢
      rcases hp with hp | hp | hp | hp | hp | hp | hp | hp <;> simp only [hp, true_or, or_true]
end LawU
section Eqs
open PySem.SeqAt
section
variable {prog : Program} {w : World} {A : Around} {E : Value → Shared → Prop} {s : Shared} {h₀ : Heap} {L : Addr} {all N : Led}
theorem rc_true {l b : Addr} {xs ys : List Value} (hl : s.heap.IsList l xs.toArray) (hb : s.heap.IsList b ys.toArray) (hsz : xs.length = ys.length) (hu : A.units < cLine)
    (he : ∀ j (h1 : j < xs.length) (h2 : j < ys.length), EqAt A.in1 s xs[j] ys[j] true) : RcAt A s (.ref l) (.ref b) true := by
  have h := RcAt.lists (A := A) (e := fun _ => true) hl hb (by simpa using hsz) hu (fun j h1 h2 => by simpa using he j (by simpa using h1) (by simpa using h2))
  have e : ((List.range xs.toArray.size).all fun _ => true) = true := by simp
  rwa [e] at h
theorem rcne_true {l b : Addr} {xs ys : List Value} (hl : s.heap.IsList l xs.toArray) (hb : s.heap.IsList b ys.toArray) (hsz : xs.length = ys.length) (hu : A.units < cLine)
    (he : ∀ j (h1 : j < xs.length) (h2 : j < ys.length), EqAt A.in1 s xs[j] ys[j] true) : RcNeAt A s (.ref l) (.ref b) false := by
  have h := RcNeAt.lists (A := A) (e := fun _ => true) hl hb (by simpa using hsz) hu (fun j h1 h2 => by simpa using he j (by simpa using h1) (by simpa using h2))
  have e : ((List.range xs.toArray.size).all fun _ => true) = true := by simp
  rwa [e] at h
theorem eq_refs {l b : Addr} (h : RcAt A s (.ref l) (.ref b) true) : EqAt A s (.ref l) (.ref b) true := by
  by_cases e : l = b
  · subst e; exact EqAt.same _
  · exact EqAt.of_refs e h
theorem eq_int {a : Int} {t u : Tok} : EqAt A s (.int a t) (.int a u) true := by
  have h := EqAt.int_int (A := A) (s := s) a t a u
  rwa [beq_self_eq_true] at h
theorem eq_str {a : Str} {t u : Tok} : EqAt A s (.str a t) (.str a u) true := by
  have h := EqAt.str_str (A := A) (s := s) a t a u
  rwa [beq_self_eq_true] at h
theorem memAt_eq {c : CDat} {x y : Value} (Ns : News h₀ L s.heap all) (sub : ∀ p ∈ N, p ∈ all) (h : MemAt N x c) (k : MemAt N y c) (hu : A.units < cLine) : EqAt A s x y true := by
  obtain ⟨e, t1, t2, t3, t4, n, rfl, a⟩ := h
  obtain ⟨e', u1, u2, u3, u4, n', rfl, a'⟩ := k
  refine eq_refs (rc_true (xs := [.int c.i t1, .int c.a t2, .int c.d t3, .int c.q t4]) (ys := [.int c.i u1, .int c.a u2, .int c.d u3, .int c.q u4]) (News.isList Ns (sub _ a)) (News.isList Ns (sub _ a')) rfl hu fun j h1 h2 => ?_)
  match j, h1, h2 with
  | 0, _, _ => exact eq_int
  | 1, _, _ => exact eq_int
  | 2, _, _ => exact eq_int
  | 3, _, _ => exact eq_int
  | j + 4, h1, _ => exact absurd h1 (by simp)
theorem row_items {r b : Addr} {f : FDat} {cs : List CDat} (Ns : News h₀ L s.heap all) (sub : ∀ p ∈ N, p ∈ all) (h : RowAt N r f cs) (k : RowAt N b f cs) (hu : A.units + 2 < cLine) :
    ∃ xs ys : List Value, s.heap.IsList r xs.toArray ∧ s.heap.IsList b ys.toArray ∧ xs.length = ys.length ∧ ∀ j (h1 : j < xs.length) (h2 : j < ys.length), EqAt A.in1 s xs[j] ys[j] true := by
  obtain ⟨ml, t1, t2, t3, t4, t5, nr, nm, vs, a1, a2, Z⟩ := h
  obtain ⟨ml', u1, u2, u3, u4, u5, nr', nm', vs', b1, b2, Z'⟩ := k
  have mls : EqAt A.in1 s (.ref ml) (.ref ml') true := by
    refine eq_refs (rc_true (News.isList Ns (sub _ a2)) (News.isList Ns (sub _ b2)) (Z.len.trans Z'.len.symm) (by rw [units_in1]; omega) fun j h1 h2 => ?_)
    have hj : j < cs.length := by rw [← Z.len]; exact h1
    obtain ⟨v, e1, m1⟩ := Z.at j hj
    obtain ⟨v', e2, m2⟩ := Z'.at j hj
    rw [List.getElem?_eq_getElem h1] at e1
    rw [List.getElem?_eq_getElem h2] at e2
    rw [Option.some.inj e1, Option.some.inj e2]
    exact memAt_eq Ns sub m1 m2 (by rw [units_in1, units_in1]; omega)
  refine ⟨[.str f.kind t1, .int f.p t2, .int f.h t3, .int f.w t4, .int f.n t5, .ref ml], [.str f.kind u1, .int f.p u2, .int f.h u3, .int f.w u4, .int f.n u5, .ref ml'], News.isList Ns (sub _ a1), News.isList Ns (sub _ b1), rfl, fun j h1 h2 => ?_⟩
  match j, h1, h2 with
  | 0, _, _ => exact eq_str
  | 1, _, _ => exact eq_int
  | 2, _, _ => exact eq_int
  | 3, _, _ => exact eq_int
  | 4, _, _ => exact eq_int
  | 5, _, _ => exact mls
  | j + 6, h1, _ => exact absurd h1 (by simp)
theorem row_ne {r b : Addr} {f : FDat} {cs : List CDat} {Q : Value → Shared → Prop} (Ns : News h₀ L s.heap all) (sub : ∀ p ∈ N, p ∈ all) (h : RowAt N r f cs) (k : RowAt N b f cs) (hu : A.units + 2 < cLine) (q : Q (.bool false) s) :
    wpAny (model prog w) A (compareOp .NotEq (.ref r) (.ref b)) Q E s := by
  obtain ⟨xs, ys, a, b, c, d⟩ := row_items Ns sub h k hu
  exact rcne_true a b c (by omega) d prog w E Q q
theorem row_eq {r b : Addr} {f : FDat} {cs : List CDat} {Q : Value → Shared → Prop} (Ns : News h₀ L s.heap all) (sub : ∀ p ∈ N, p ∈ all) (h : RowAt N r f cs) (k : RowAt N b f cs) (hu : A.units + 2 < cLine) (q : Q (.bool true) s) :
    wpAny (model prog w) A (compareOp .Eq (.ref r) (.ref b)) Q E s := by
  obtain ⟨xs, ys, a, b, c, d⟩ := row_items Ns sub h k hu
  exact rc_true a b c (by omega) d prog w E Q q
-- dicts
def LstV (N : Led) (v : Value) (ns : List Int) : Prop := ∃ l vs n, v = .ref l ∧ (l, listOf (List.toArray vs) n) ∈ N ∧ IntsAre vs ns
theorem LstV.up {N N' : Led} (u : Up N N') {v : Value} {c : List Int} (h : LstV N v c) : LstV N' v c := by
  obtain ⟨x, vs, n, e, a, b⟩ := h; exact ⟨x, vs, n, e, u _ a nc_list, b⟩
theorem lstV_eq {x y : Value} {ns : List Int} (Ns : News h₀ L s.heap all) (sub : ∀ p ∈ N, p ∈ all) (h : LstV N x ns) (k : LstV N y ns) (hu : A.units < cLine) : EqAt A s x y true := by
  obtain ⟨l, vs, n, rfl, a, hi⟩ := h
  obtain ⟨l', us, n', rfl, a', hj⟩ := k
  refine eq_refs (rc_true (News.isList Ns (sub _ a)) (News.isList Ns (sub _ a')) (hi.length.trans hj.length.symm) hu fun j h1 h2 => ?_)
  have hn : j < ns.length := by rw [← hi.length]; exact h1
  obtain ⟨p, t, e1, hp⟩ := IntsAre.at hi j _ (List.getElem?_eq_getElem h1)
  obtain ⟨q, u, e2, hq⟩ := IntsAre.at hj j _ (List.getElem?_eq_getElem h2)
  rw [hp] at hq
  obtain rfl := Option.some.inj hq
  rw [e1, e2]
  exact eq_int
theorem tupV_eq {x y : Value} {ns : List Int} (Ns : News h₀ L s.heap all) (sub : ∀ p ∈ N, p ∈ all) (h : TupV N x ns) (k : TupV N y ns) (hu : A.units < cLine) : EqAt A s x y true := by
  obtain ⟨l, o, rfl, a, hi⟩ := h
  obtain ⟨l', o', rfl, a', hj⟩ := k
  have z := tup_eqAt (A := A) (Ns _ (sub _ a)).1 (Ns _ (sub _ a')).1 hi hj hu
  rwa [decide_eq_true rfl] at z
/-- a dict's pairs against pairs of data -/
inductive DRel (VP : Value → List Int → Prop) : List (Int × Value) → List (Int × List Int) → Prop
  | nil : DRel VP [] []
  | cons {k : Int} {v : Value} {ns : List Int} {a : List (Int × Value)} {b : List (Int × List Int)} : VP v ns → DRel VP a b → DRel VP ((k, v) :: a) ((k, ns) :: b)
theorem DRel.imp {VP VP' : Value → List Int → Prop} (f : ∀ v ns, VP v ns → VP' v ns) {a : List (Int × Value)} {b : List (Int × List Int)} (h : DRel VP a b) : DRel VP' a b := by
  induction h with
  | nil => exact .nil
  | cons x _ ih => exact .cons (f _ _ x) ih
theorem TabRel.drel {N : Led} {a : List (Int × Value)} {b : List (Int × List Int)} (h : TabRel N a b) : DRel (TupV N) a b := by
  induction h with
  | nil => exact .nil
  | cons x _ ih => exact .cons x ih
theorem DRel.len {VP : Value → List Int → Prop} {a : List (Int × Value)} {b : List (Int × List Int)} (h : DRel VP a b) : a.length = b.length := by
  induction h with
  | nil => rfl
  | cons _ _ ih => simp [ih]
theorem DRel.snoc {VP : Value → List Int → Prop} {a : List (Int × Value)} {b : List (Int × List Int)} {k : Int} {v : Value} {ns : List Int} (h : DRel VP a b) (x : VP v ns) : DRel VP (a ++ [(k, v)]) (b ++ [(k, ns)]) := by
  induction h with
  | nil => exact .cons x .nil
  | cons y _ ih => exact .cons y ih
theorem DRel.any {VP : Value → List Int → Prop} {a : List (Int × Value)} {b : List (Int × List Int)} (k : Int) (h : DRel VP a b) : a.any (fun kv => kv.1 = k) = b.any fun kv => kv.1 = k := by
  induction h with
  | nil => rfl
  | cons _ _ ih => simp only [List.any_cons, ih]
theorem DRel.put {VP : Value → List Int → Prop} {a : List (Int × Value)} {b : List (Int × List Int)} {k : Int} {v : Value} {ns : List Int} (h : DRel VP a b) (x : VP v ns) : DRel VP (a.map fun kv => if kv.1 = k then (kv.1, v) else kv) (b.map fun kv => if kv.1 = k then (kv.1, ns) else kv) := by
  induction h with
  | nil => exact .nil
  | @cons k' v' ns' a' b' y _ ih =>
    simp only [List.map_cons]
    by_cases e : k' = k
    · rw [if_pos e, if_pos e]; exact .cons x ih
    · rw [if_neg e, if_neg e]; exact .cons y ih
theorem DRel.stored {VP : Value → List Int → Prop} {a : List (Int × Value)} {b : List (Int × List Int)} {k : Int} {v : Value} {ns : List Int} (h : DRel VP a b) (x : VP v ns) : DRel VP (PySem.stored a k v) (storedP b k ns) := by
  unfold PySem.stored storedP
  rw [h.any k]
  split
  · exact h.put x
  · exact h.snoc x
theorem DRel.keys {VP : Value → List Int → Prop} {a : List (Int × Value)} {b : List (Int × List Int)} (h : DRel VP a b) : a.map (·.1) = b.map (·.1) := by
  induction h with
  | nil => rfl
  | cons _ _ ih => simp [ih]
theorem DRel.find {VP : Value → List Int → Prop} {a : List (Int × Value)} {b : List (Int × List Int)} (h : DRel VP a b) (hn : (a.map (·.1)).Nodup) {k : Int} {ns : List Int} (hm : (k, ns) ∈ b) : ∃ v, valueAt a k = some v ∧ VP v ns := by
  induction h with
  | nil => cases hm
  | @cons k' v' ns' a' b' y r ih =>
    rw [List.map_cons, List.nodup_cons] at hn
    rcases List.mem_cons.mp hm with e | hm
    · injection e with e1 e2
      subst e1 e2
      exact ⟨v', by simp [valueAt], y⟩
    · have hne : k' ≠ k := by
        intro e
        apply hn.1
        rw [r.keys]
        exact e ▸ List.mem_map_of_mem (f := fun x : Int × List Int => x.1) hm
      obtain ⟨v, e1, e2⟩ := ih hn.2 hm
      refine ⟨v, ?_, e2⟩
      unfold valueAt at e1 ⊢
      rw [List.find?_cons_of_neg (p := fun kv : Int × Value => decide (kv.1 = k)) (by simpa using hne)]
      exact e1
theorem hits_true {VP VP' : Value → List Int → Prop} {kb : List (Int × Value)} {pv : List (Int × List Int)} (he : ∀ x y ns, VP x ns → VP' y ns → EqAt A s x y true) (hb : DRel VP' kb pv) (hn : (kb.map (·.1)).Nodup) :
    ∀ {a : List (Int × Value)} {b : List (Int × List Int)}, DRel VP a b → (∀ p ∈ b, p ∈ pv) → KeqHits A s kb a true := by
  intro a b h
  induction h with
  | nil => intro _; exact .nil
  | @cons k v ns a b x _ ih =>
    intro hs
    obtain ⟨y, e1, e2⟩ := hb.find hn (hs _ (.head _))
    exact KeqHits.hit (e := true) (b := true) e1 (he v y ns x e2) (ih fun p hp => hs p (.tail _ hp))
def DictV (w : World) (VP : Led → Value → List Int → Prop) (N : Led) (a : Addr) (pv : List (Int × List Int)) : Prop :=
  ∃ od kvs, (a, od) ∈ N ∧ (a == sysModules) = false ∧ od.IsDictOf (PySem.intKind PySem.Challenge.rw_ok0144_01.row.prog w) kvs ∧ DRel (VP N) kvs pv
theorem DictV.up {w : World} {VP : Led → Value → List Int → Prop} (f : ∀ {N N' : Led}, Up N N' → ∀ {v : Value} {ns : List Int}, VP N v ns → VP N' v ns) {N N' : Led} (u : Up N N') {a : Addr} {pv : List (Int × List Int)} (h : DictV w VP N a pv) : DictV w VP N' a pv := by
  obtain ⟨od, kvs, a1, a2, a3, a4⟩ := h
  exact ⟨od, kvs, u _ a1 (nc_isDict a3), a2, a3, a4.imp fun _ _ => f u⟩
theorem dicts_hits {w : World} {VP VP' : Led → Value → List Int → Prop} {a b : Addr} {pv : List (Int × List Int)} (Ns : News h₀ L s.heap all) (sub : ∀ p ∈ N, p ∈ all) (ha : DictV w VP N a pv) (hb : DictV w VP' N b pv) (he : ∀ x y ns, VP N x ns → VP' N y ns → EqAt A s x y true) :
    ∃ ka kb, (a == sysModules) = false ∧ (b == sysModules) = false ∧ s.heap.DictOf (PySem.intKind PySem.Challenge.rw_ok0144_01.row.prog w) a ka ∧ s.heap.DictOf (PySem.intKind PySem.Challenge.rw_ok0144_01.row.prog w) b kb ∧ (ka.length == kb.length) = true ∧ KeqHits A s kb ka true := by
  obtain ⟨oa, ka, a1, a2, a3, a4⟩ := ha
  obtain ⟨ob, kb, b1, b2, b3, b4⟩ := hb
  have hn : (kb.map (·.1)).Nodup := by obtain ⟨_, _, _, _, _, _, h⟩ := b3; exact h
  exact ⟨ka, kb, a2, b2, Heap.dictOf_iff.mpr ⟨oa, (Ns _ (sub _ a1)).1, a3⟩, Heap.dictOf_iff.mpr ⟨ob, (Ns _ (sub _ b1)).1, b3⟩, by rw [a4.len, b4.len]; exact beq_self_eq_true _, hits_true he b4 hn a4 fun _ h => h⟩
theorem dict_ne {w : World} {VP VP' : Led → Value → List Int → Prop} {a b : Addr} {pv : List (Int × List Int)} {Q : Value → Shared → Prop} (Ns : News h₀ L s.heap all) (sub : ∀ p ∈ N, p ∈ all) (ha : DictV w VP N a pv) (hb : DictV w VP' N b pv) (he : ∀ x y ns, VP N x ns → VP' N y ns → EqAt A.in1 s x y true) (hu : A.units < cLine) (q : Q (.bool false) s) :
    wpAny (model PySem.Challenge.rw_ok0144_01.row.prog w) A (compareOp .NotEq (.ref a) (.ref b)) Q E s := by
  obtain ⟨ka, kb, l1, l2, d1, d2, e, h⟩ := dicts_hits (A := A.in1) Ns sub ha hb he
  exact keq_ne l1 l2 d1 d2 hu (fun _ => h) (by rw [e]; exact q)
theorem dict_eq {w : World} {VP VP' : Led → Value → List Int → Prop} {a b : Addr} {pv : List (Int × List Int)} {Q : Value → Shared → Prop} (Ns : News h₀ L s.heap all) (sub : ∀ p ∈ N, p ∈ all) (ha : DictV w VP N a pv) (hb : DictV w VP' N b pv) (he : ∀ x y ns, VP N x ns → VP' N y ns → EqAt A.in1 s x y true) (hu : A.units < cLine) (q : Q (.bool true) s) :
    wpAny (model PySem.Challenge.rw_ok0144_01.row.prog w) A (compareOp .Eq (.ref a) (.ref b)) Q E s := by
  obtain ⟨ka, kb, l1, l2, d1, d2, e, h⟩ := dicts_hits (A := A.in1) Ns sub ha hb he
  exact keq_eq l1 l2 d1 d2 hu (fun _ => h) (by rw [e]; exact q)
/-- the pairs of data that a dict of n pairs holds -/
def pvOf (key : Nat → Int) (R : List (List Int)) : Nat → List (Int × List Int)
  | 0 => []
  | i + 1 => storedP (pvOf key R i) (key i) (R.getD i [])
theorem tabs_pv (R : List (List Int)) (n : Nat) : tabs R n = pvOf (fun i => ((slotOf R i : Nat) : Int)) R n := by
  induction n with
  | zero => rfl
  | succ n ih => show storedP (tabs R n) _ _ = storedP (pvOf _ R n) _ _; rw [ih]
theorem pvOf_congr {k k' : Nat → Int} {R : List (List Int)} {n : Nat} (h : ∀ i, i < n → k i = k' i) : pvOf k R n = pvOf k' R n := by
  induction n with
  | zero => rfl
  | succ n ih =>
    show storedP (pvOf k R n) _ _ = storedP (pvOf k' R n) _ _
    rw [ih fun i hi => h i (Nat.lt_succ_of_lt hi), h n (Nat.lt_succ_self n)]
def PairAt (VP : Led → Value → List Int → Prop) (N : Led) (v : Value) (k : Int) (ns : List Int) : Prop := ∃ τ tk x n, v = .ref τ ∧ (τ, tupOf #[.int k tk, x] n) ∈ N ∧ VP N x ns
theorem putAll_drel {VP : Value → List Int → Prop} {key : Nat → Int} {R : List (List Int)} {kk : Nat → Int} {va : Nat → Value} {n : Nat} (h : ∀ j, j < n → kk j = key j ∧ VP (va j) (R.getD j [])) :
    ∀ (k i : Nat) (kvs : List (Int × Value)), i + k = n → DRel VP kvs (pvOf key R i) → DRel VP (putAll kk va k i kvs) (pvOf key R n) := by
  intro k
  induction k with
  | zero => intro i kvs e d; have e' : i = n := by omega
            subst e'; exact d
  | succ k ih =>
    intro i kvs e d
    obtain ⟨h1, h2⟩ := h i (by omega)
    refine ih (i + 1) _ (by omega) ?_
    rw [h1]
    exact d.stored h2
theorem dict_of {w : World} {VP : Led → Value → List Int → Prop} {m : Str → Option Value} {D : Addr} {ys : List Value} {nn n : Nat} {key : Nat → Int} {R : List (List Int)} {Q : Value → Shared → Prop} (hA : A.handled = none) (F : Fr h₀ L s.heap m) (Ns : News h₀ L s.heap all) (hbig : h₀.NoLimit) (sub : ∀ p ∈ N, p ∈ all) (hm : (D, listOf ys.toArray nn) ∈ N)
    (hl : ys.length = n) (hn : n ≤ 4) (hp : ∀ j, j < n → ∃ v, ys[j]? = some v ∧ PairAt VP N v (key j) (R.getD j []))
    (ret : ∀ (d : Addr) (od : Obj) (kvs : List (Int × Value)) (h' : Heap) (tk' : Nat), (d == sysModules) = false → od.IsDictOf (PySem.intKind PySem.Challenge.rw_ok0144_01.row.prog w) kvs → DRel (VP N) kvs (pvOf key R n) → (∀ p ∈ all, p.1 < d) → Fr h₀ L h' m → News h₀ L h' ((d, od) :: all) → Q (.ref d) { s with heap := h', toks := tk' }) :
    wpAny (model PySem.Challenge.rw_ok0144_01.row.prog w) A (call (.type "dict") [.ref D]) Q E s := by
  have sk : ∀ j : Nat, ∃ q : Addr × Tok × Value × Nat, j < n → ys[j]? = some (.ref q.1) ∧ (q.1, tupOf #[.int (key j) q.2.1, q.2.2.1] q.2.2.2) ∈ N ∧ VP N q.2.2.1 (R.getD j []) := fun j => by
    by_cases h : j < n
    · obtain ⟨v, e, τ, tk, x, m', rfl, a, b⟩ := hp j h
      exact ⟨(τ, tk, x, m'), fun _ => ⟨e, a, b⟩⟩
    · exact ⟨(0, 0, .none, 0), fun h' => absurd h' h⟩
  obtain ⟨q, hq⟩ := Classical.axiomOfChoice sk
  have hsz : ys.toArray.size = n := by simpa using hl
  refine call_dict_pairs (knd := PySem.intKind PySem.Challenge.rw_ok0144_01.row.prog w) (items := ys.toArray) (pr := fun j => (q j).1) (ky := fun j => .int (key j) (q j).2.1) (va := fun j => (q j).2.2.1) (kk := key) hA (Ns _ (sub _ hm)).1 (fun j hj => ?_) (by rw [hsz, sizeLine_eq]; omega) fun h' tk hd keep => ?_
  · rw [hsz] at hj
    obtain ⟨a, b, _⟩ := hq j hj
    exact ⟨by simpa using a, ⟨_, (Ns _ (sub _ b)).1⟩, intKind_is _ _ _ _⟩
  · rw [hsz] at hd
    obtain ⟨od, ho, hk⟩ := Heap.dictOf_iff.mp hd
    have F' : Fr h₀ L h' m := F.keeps keep
    refine ret _ od _ h' tk (F.notModules (modules_low hbig)) hk (putAll_drel (VP := VP N) (key := key) (R := R) (fun j hj => ⟨rfl, (hq j hj).2.2⟩) n 0 [] (by omega) .nil) (fun p hp => Heap.lt_size (Ns p hp).1) F' fun p hp => ?_
    rcases List.mem_cons.mp hp with rfl | hp
    · exact ⟨ho, Nat.ne_of_gt F.ns.lt, none_at_size F⟩
    · exact ⟨keep _ _ (Ns p hp).1, (Ns p hp).2⟩
end
end Eqs
section LawC
open PyProof.Rows.LCg
theorem numd_get : ∀ (vs : List Value) (i j : Nat) (h : i < vs.length), (numd j vs)[i]? = some (((j + i : Nat) : Int), vs[i])
  | v :: r, 0, j, _ => rfl
  | v :: r, i + 1, j, h => by
    have := numd_get r i (j + 1) (Nat.lt_of_succ_lt_succ h)
    rw [show j + 1 + i = j + (i + 1) by omega] at this
    exact this
theorem isInt_of {prog : Program} {w : World} {k : Int} {v : Value} (h : (PySem.intKind prog w).is k v = true) : ∃ t, v = .int k t := by
  cases v <;> simp_all [PySem.intKind, Value.isInt]
section
variable {prog : Program} {w : World} {A : Around} {E : Value → Shared → Prop} {s : Shared} {h₀ : Heap} {L : Addr} {m : Str → Option Value} {env : Env}
theorem law_fin_comp {src c1 c2 c3 : Addr} {o o1 o2 o3 : Obj} {rest : Led} {n : Nat} {PA : Led → Nat → Value → Prop} {Q : Value → Shared → Prop} (off : OwnOff rest [src, c1, c2, c3]) (up : ∀ {N N' : Led} {i : Nat} {v : Value}, Up N N' → PA N i v → PA N' i v)
    (fin : ∀ (D : Addr) (ys : List Value) (rest' : Led) (h : Heap) (tk : Nat), Up rest rest' → OwnOff rest' [src, c1, c2, c3] → (D, lst ys) ∈ rest' → ys.length = n → (∀ j, j < n → ∃ v, ys[j]? = some v ∧ PA rest' j v) → Fr h₀ L h m → News h₀ L h ((c1, o1) :: (c2, o2) :: (c3, o3) :: (src, o) :: rest') → Q (.ref D) { s with heap := h, toks := tk }) :
    ∀ ys Z, (∀ p ∈ Z, ∀ q ∈ [(c1, o1), (c2, o2), (c3, o3), (src, o)] ++ rest, q.1 ≠ p.1) → GrowAt rest PA n ys Z → FinE h₀ L m s Q ys (Z ++ ([(c1, o1), (c2, o2), (c3, o3), (src, o)] ++ rest)) := by
  intro ys Z fr g D h tk F N o1'
  obtain ⟨rest', u1, u2, u3, u4, u5⟩ := law_comp N o1' fr off
  refine fin D ys rest' h tk u1 u2 u3 g.1 (fun j hj => ?_) F u5
  obtain ⟨v, e, p⟩ := g.2 j hj
  exact ⟨v, e, up (Up.of u4) p⟩
theorem range_src {elt : Expr} {x : Str} {scope : Scope} {cl : List (Str × Addr)} {r src c1 c2 c3 : Addr} {o o1 o2 o3 : Obj} {rest : Led} {n : Nat} {t u v : Tok} {PA : Led → Nat → Value → Prop} {Q : Value → Shared → Prop}
    (hh : A.handled = none) (F : Fr h₀ L s.heap m) (N : News h₀ L s.heap ((c1, o1) :: (c2, o2) :: (c3, o3) :: (src, o) :: rest)) (hr : IsRange s.heap r 0 (n : Int) 1 t u v) (hn : n ≤ 4) (off : OwnOff rest [src, c1, c2, c3]) (up : ∀ {N N' : Led} {i : Nat} {v : Value}, Up N N' → PA N i v → PA N' i v)
    (turn : ∀ (i : Nat) (t : Tok) I oI C oC D m₂ ys nw bs h tk (E' : Value → Shared → Prop), i < n → NsObj oC m₂ → m₂ x = some (.int (i : Int) t) → (c1, o1) ∈ nw → (c2, o2) ∈ nw → (c3, o3) ∈ nw → (∀ p ∈ rest, p ∈ nw) → (∀ p ∈ rest, p ∈ bs) → (∀ p ∈ bs, p ∈ nw) → Fr h₀ L h m → News h₀ L h ((I, oI) :: (C, oC) :: (D, lst ys) :: nw) → Off3 I C D nw → ((@Ne Nat I C) ∧ (@Ne Nat I D) ∧ (@Ne Nat C D)) →
      wpAny (model prog w) A (eval elt (compEnvC scope cl C env)) (GrowEnd h₀ L m { s with heap := h, toks := tk } I oI C oC D (lst ys) nw bs (fun N y => PA N i y)) E' { s with heap := h, toks := tk })
    (fin : ∀ (D : Addr) (ys : List Value) (rest' : Led) (h : Heap) (tk : Nat), Up rest rest' → OwnOff rest' [src, c1, c2, c3] → (D, lst ys) ∈ rest' → ys.length = n → (∀ j, j < n → ∃ v, ys[j]? = some v ∧ PA rest' j v) → Fr h₀ L h m → News h₀ L h ((c1, o1) :: (c2, o2) :: (c3, o3) :: (src, o) :: rest') → Q (.ref D) { s with heap := h, toks := tk }) :
    CompSrc prog w A h₀ L m env elt x scope cl (fun s₂ => FinE h₀ L m s₂ Q) (.ref r) s := by
  refine CompSrc.range hh F N hr (small_one (by omega) (by omega) (by omega) (by omega)) (by first | exact rangeSize_nat _ _ | rfl) (by rw [sizeLine_eq]; omega) fun g => ?_
  refine comp_grow [(c1, o1), (c2, o2), (c3, o3), (src, o)] rest PA (fun W N i v => up (Up.of fun p hp => List.mem_append_right _ hp)) (fun _ => trivial) (fun i v I oI C oC D m₂ ys nw bs h tk E' hi hP hC hx s1 s2 s3 F N off ne => ?_) (law_fin_comp off up fin)
  obtain ⟨t', rfl⟩ := hP
  rw [Int.zero_add] at hx
  exact turn i t' I oI C oC D m₂ ys nw bs h tk E' hi hC hx (s1 _ (by simp)) (s1 _ (by simp)) (s1 _ (by simp)) (fun p hp => s1 p (List.mem_append_right _ hp)) s2 s3 F N off ne
end
theorem lst_up {N N' : Led} {k : Int} {ns : List Int} {v : Value} {VP : Led → Value → List Int → Prop} (f : ∀ {N N' : Led}, Up N N' → ∀ {v : Value} {ns : List Int}, VP N v ns → VP N' v ns) (u : Up N N') (h : PairAt VP N v k ns) : PairAt VP N' v k ns := by
  obtain ⟨τ, tk, x, n, e, a, b⟩ := h
  exact ⟨τ, tk, x, n, e, u _ a nc_tup, f u b⟩
section
variable {w : World} {A : Around} {E : Value → Shared → Prop} {s : Shared} {h₀ : Heap} {L : Addr} {m : Str → Option Value} {env : Env}
theorem kept_src {elt : Expr} {x : Str} {scope : Scope} {cl : List (Str × Addr)} {d src c1 c2 c3 : Addr} {o o1 o2 o3 : Obj} {l rest : Led} {R : List (List Int)} {Q : Value → Shared → Prop}
    (hh : A.handled = none) (F : Fr h₀ L s.heap m) (N : News h₀ L s.heap ((c1, o1) :: (c2, o2) :: (c3, o3) :: (src, o) :: rest)) (dv : DivAt w l d R) (ul : Up l rest) (hn : R.length ≤ 4) (off : OwnOff rest [src, c1, c2, c3])
    (turn : ∀ (i : Nat) (t : Tok) I oI C oC D m₂ ys nw bs odq rs h tk (E' : Value → Shared → Prop), i < R.length → NsObj oC m₂ → m₂ x = some (.int (i : Int) t) → (c1, o1) ∈ nw → (c2, o2) ∈ nw → (c3, o3) ∈ nw → (d, odq) ∈ nw → odq.IsDictOf (PySem.intKind PySem.Challenge.rw_ok0144_01.row.prog w) (numd 0 rs) → Zip (RowV nw) rs R → Fr h₀ L h m → News h₀ L h ((I, oI) :: (C, oC) :: (D, lst ys) :: nw) → Off3 I C D nw → ((@Ne Nat I C) ∧ (@Ne Nat I D) ∧ (@Ne Nat C D)) →
      wpAny (model PySem.Challenge.rw_ok0144_01.row.prog w) A (eval elt (compEnvC scope cl C env)) (GrowEnd h₀ L m { s with heap := h, toks := tk } I oI C oC D (lst ys) nw bs (fun N y => PairAt LstV N y (i : Int) (R.getD i []))) E' { s with heap := h, toks := tk })
    (fin : ∀ (D : Addr) (ys : List Value) (rest' : Led) (h : Heap) (tk : Nat), Up rest rest' → OwnOff rest' [src, c1, c2, c3] → (D, lst ys) ∈ rest' → ys.length = R.length → (∀ j, j < R.length → ∃ v, ys[j]? = some v ∧ PairAt LstV rest' v (j : Int) (R.getD j [])) → Fr h₀ L h m → News h₀ L h ((c1, o1) :: (c2, o2) :: (c3, o3) :: (src, o) :: rest') → Q (.ref D) { s with heap := h, toks := tk }) :
    CompSrcD PySem.Challenge.rw_ok0144_01.row.prog w A h₀ L m env elt x scope cl (fun s₂ => FinE h₀ L m s₂ Q) (.ref d) s := by
  obtain ⟨odq, rs, a1, a2, a3, a4⟩ := dv.up ul
  have hlen : (numd 0 rs).length = R.length := by rw [numd_len, a4.len]
  refine CompSrcD.intro hh F N (.tail _ (.tail _ (.tail _ (.tail _ a1)))) a3 a2 (by rw [hlen, sizeLine_eq]; omega) fun g => ?_
  rw [hlen]
  refine comp_grow [(c1, o1), (c2, o2), (c3, o3), (src, o)] rest (fun N i v => PairAt LstV N v (i : Int) (R.getD i [])) (fun W N i v => lst_up LstV.up (Up.of fun p hp => List.mem_append_right _ hp)) (fun Z => List.mem_append_right _ (List.mem_append_right _ a1))
    (fun i v I oI C oC D m₂ ys nw bs h tk E' hi hP hC hx s1 s2 s3 F N off ne => ?_) (law_fin_comp off (fun u => lst_up LstV.up u) fin)
  obtain ⟨k, y, e, hk⟩ := hP
  have hv := numd_get rs i 0 (by rw [a4.len]; exact hi)
  rw [Nat.zero_add, e] at hv
  obtain ⟨rfl, rfl⟩ := Prod.mk.inj (Option.some.inj hv)
  obtain ⟨t, rfl⟩ := isInt_of hk
  exact turn i t I oI C oC D m₂ ys nw bs odq rs h tk E' hi hC hx (s1 _ (by simp)) (s1 _ (by simp)) (s1 _ (by simp)) (s1 _ (List.mem_append_right _ a1)) a3 (a4.imp fun _ _ => RowV.mono fun p hp => s1 p (List.mem_append_right _ hp)) F N off ne
theorem rows_src {elt : Expr} {x : Str} {scope : Scope} {cl : List (Str × Addr)} {r d src c1 c2 c3 : Addr} {o o1 o2 o3 : Obj} {l rest : Led} {n : Nat} {t u v : Tok} {R : List (List Int)} {Q : Value → Shared → Prop}
    (hh : A.handled = none) (F : Fr h₀ L s.heap m) (N : News h₀ L s.heap ((c1, o1) :: (c2, o2) :: (c3, o3) :: (src, o) :: rest)) (hr : IsRange s.heap r 0 (n : Int) 1 t u v) (dv : DivAt w l d R) (ul : Up l rest) (hl : R.length = n) (hn : n ≤ 4) (off : OwnOff rest [src, c1, c2, c3])
    (turn : ∀ (i : Nat) (t : Tok) I oI C oC D m₂ ys nw bs odq rs h tk (E' : Value → Shared → Prop), i < R.length → NsObj oC m₂ → m₂ x = some (.int (i : Int) t) → (c1, o1) ∈ nw → (c2, o2) ∈ nw → (c3, o3) ∈ nw → (d, odq) ∈ nw → odq.IsDictOf (PySem.intKind PySem.Challenge.rw_ok0144_01.row.prog w) (numd 0 rs) → Zip (RowV bs) rs R → (∀ p ∈ bs, p ∈ nw) → Fr h₀ L h m → News h₀ L h ((I, oI) :: (C, oC) :: (D, lst ys) :: nw) → Off3 I C D nw → ((@Ne Nat I C) ∧ (@Ne Nat I D) ∧ (@Ne Nat C D)) →
      wpAny (model PySem.Challenge.rw_ok0144_01.row.prog w) A (eval elt (compEnvC scope cl C env)) (GrowEnd h₀ L m { s with heap := h, toks := tk } I oI C oC D (lst ys) nw bs (fun N y => TupV N y (R.getD i []))) E' { s with heap := h, toks := tk })
    (fin : ∀ (D : Addr) (ys : List Value) (rest' : Led) (h : Heap) (tk : Nat), Up rest rest' → OwnOff rest' [src, c1, c2, c3] → (D, lst ys) ∈ rest' → TupsIn rest' ys R → (ys.toArray.size : Int) = (R.length : Int) → Fr h₀ L h m → News h₀ L h ((c1, o1) :: (c2, o2) :: (c3, o3) :: (src, o) :: rest') → Q (.ref D) { s with heap := h, toks := tk }) :
    CompSrc PySem.Challenge.rw_ok0144_01.row.prog w A h₀ L m env elt x scope cl (fun s₂ => FinE h₀ L m s₂ Q) (.ref r) s := by
  obtain ⟨odq, rs, a1, a2, a3, a4⟩ := dv.up ul
  subst hl
  refine range_src (PA := fun N i v => TupV N v (R.getD i [])) hh F N hr hn off (fun u => TupV.up u) (fun i t I oI C oC D m₂ ys nw bs h tk E' hi hC hx b1 b2 b3 s1 s2 s3 F N off ne => ?_) fun D ys rest' h tk u1 u2 u3 hl hp F N => fin D ys rest' h tk u1 u2 u3 ⟨hl, fun j hj => ?_⟩ (by rw [List.size_toArray, hl]) F N
  · exact turn i t I oI C oC D m₂ ys nw bs odq rs h tk E' hi hC hx b1 b2 b3 (s1 _ a1) a3 (a4.imp fun _ _ => RowV.mono s2) s3 F N off ne
  · obtain ⟨v, e, τ, oτ, rfl, a, b⟩ := hp j hj
    refine ⟨τ, oτ, e, a, ?_⟩
    rw [List.getD_eq_getElem?_getD, List.getElem?_eq_getElem hj] at b
    exact b
theorem pairs_src {elt : Expr} {x : Str} {scope : Scope} {cl : List (Str × Addr)} {r rl sl src c1 c2 c3 : Addr} {o o1 o2 o3 : Obj} {l l' rest : Led} {n n1 n2 : Nat} {t u v : Tok} {R : List (List Int)} {vs zs : List Value} {Q : Value → Shared → Prop}
    (hh : A.handled = none) (F : Fr h₀ L s.heap m) (N : News h₀ L s.heap ((c1, o1) :: (c2, o2) :: (c3, o3) :: (src, o) :: rest)) (hr : IsRange s.heap r 0 (n : Int) 1 t u v) (hT : TupsIn l vs R) (m1 : (rl, listOf vs.toArray n1) ∈ l) (ul : Up l rest) (hI : IntsAre zs ((List.range R.length).map (numb R))) (m2 : (sl, listOf zs.toArray n2) ∈ l') (ul' : Up l' rest) (hl : R.length = n) (hn : n ≤ 4) (off : OwnOff rest [src, c1, c2, c3])
    (turn : ∀ (i : Nat) (t : Tok) I oI C oC D m₂ ys nw bs h tk (E' : Value → Shared → Prop), i < R.length → NsObj oC m₂ → m₂ x = some (.int (i : Int) t) → (c1, o1) ∈ nw → (c2, o2) ∈ nw → (c3, o3) ∈ nw → (rl, listOf vs.toArray n1) ∈ nw → (sl, listOf zs.toArray n2) ∈ nw → TupsIn bs vs R → Fr h₀ L h m → News h₀ L h ((I, oI) :: (C, oC) :: (D, lst ys) :: nw) → Off3 I C D nw → ((@Ne Nat I C) ∧ (@Ne Nat I D) ∧ (@Ne Nat C D)) →
      wpAny (model PySem.Challenge.rw_ok0144_01.row.prog w) A (eval elt (compEnvC scope cl C env)) (GrowEnd h₀ L m { s with heap := h, toks := tk } I oI C oC D (lst ys) nw bs (fun N y => PairAt TupV N y (numb R i) (R.getD i []))) E' { s with heap := h, toks := tk })
    (fin : ∀ (D : Addr) (ys : List Value) (rest' : Led) (h : Heap) (tk : Nat), Up rest rest' → OwnOff rest' [src, c1, c2, c3] → (D, lst ys) ∈ rest' → ys.length = R.length → (∀ j, j < R.length → ∃ v, ys[j]? = some v ∧ PairAt TupV rest' v (numb R j) (R.getD j [])) → Fr h₀ L h m → News h₀ L h ((c1, o1) :: (c2, o2) :: (c3, o3) :: (src, o) :: rest') → Q (.ref D) { s with heap := h, toks := tk }) :
    CompSrc PySem.Challenge.rw_ok0144_01.row.prog w A h₀ L m env elt x scope cl (fun s₂ => FinE h₀ L m s₂ Q) (.ref r) s := by
  subst hl
  refine range_src (PA := fun N i v => PairAt TupV N v (numb R i) (R.getD i [])) hh F N hr hn off (fun u => lst_up TupV.up u) (fun i t I oI C oC D m₂ ys nw bs h tk E' hi hC hx b1 b2 b3 s1 s2 s3 F N off ne => ?_) fin
  exact turn i t I oI C oC D m₂ ys nw bs h tk E' hi hC hx b1 b2 b3 (s1 _ (ul _ m1 nc_list)) (s1 _ (ul' _ m2 nc_list)) ((hT.up ul).mono s2) F N off ne
theorem grow_pair {I C D τ l : Addr} {oI oC oD oτ ol : Obj} {s₁ : Shared} {h' : Heap} {tk : Nat} {nw bs : Led} {PA : Led → Value → Prop} (F : Fr h₀ L h' m) (N : News h₀ L h' ((τ, oτ) :: (l, ol) :: (I, oI) :: (C, oC) :: (D, oD) :: nw))
    (l1 : ∀ p ∈ (I, oI) :: (C, oC) :: (D, oD) :: nw, p.1 < l) (l2 : ∀ p ∈ (l, ol) :: (I, oI) :: (C, oC) :: (D, oD) :: nw, p.1 < τ) (pa : PA ((τ, oτ) :: (l, ol) :: bs) (.ref τ)) : GrowEnd h₀ L m s₁ I oI C oC D oD nw bs PA (.ref τ) { s₁ with heap := h', toks := tk } := by
  refine ⟨h', tk, [(τ, oτ), (l, ol)], rfl, F, news_sub N fun p hp => ?_, fun p hp => ?_, pa⟩
  · simp only [List.mem_cons, List.mem_append, List.not_mem_nil, or_false] at hp ⊢
    rcases hp with hp | hp | hp | (hp | hp) | hp <;> simp only [hp, true_or, or_true]
  · simp only [List.mem_cons, List.not_mem_nil, or_false] at hp
    rcases hp with rfl | rfl
    · exact ⟨⟨Nat.ne_of_gt (l2 _ (.tail _ (.head _))), Nat.ne_of_gt (l2 _ (.tail _ (.tail _ (.head _)))), Nat.ne_of_gt (l2 _ (.tail _ (.tail _ (.tail _ (.head _)))))⟩, fun q hq => Nat.ne_of_lt (l2 q (.tail _ (.tail _ (.tail _ (.tail _ hq)))))⟩
    · exact ⟨⟨Nat.ne_of_gt (l1 _ (.head _)), Nat.ne_of_gt (l1 _ (.tail _ (.head _))), Nat.ne_of_gt (l1 _ (.tail _ (.tail _ (.head _))))⟩, fun q hq => Nat.ne_of_lt (l1 q (.tail _ (.tail _ (.tail _ hq))))⟩
theorem grow_one {I C D τ : Addr} {oI oC oD oτ : Obj} {s₁ : Shared} {h' : Heap} {tk : Nat} {nw bs : Led} {PA : Led → Value → Prop} {y : Value} (F : Fr h₀ L h' m) (N : News h₀ L h' ((τ, oτ) :: (I, oI) :: (C, oC) :: (D, oD) :: nw))
    (l1 : ∀ p ∈ (I, oI) :: (C, oC) :: (D, oD) :: nw, p.1 < τ) (pa : PA ((τ, oτ) :: bs) y) : GrowEnd h₀ L m s₁ I oI C oC D oD nw bs PA y { s₁ with heap := h', toks := tk } := by
  refine ⟨h', tk, [(τ, oτ)], rfl, F, news_sub N fun p hp => ?_, fun p hp => ?_, pa⟩
  · simp only [List.mem_cons, List.mem_append, List.not_mem_nil, or_false] at hp ⊢
    rcases hp with hp | hp | hp | hp | hp <;> simp only [hp, true_or, or_true]
  · simp only [List.mem_cons, List.not_mem_nil, or_false] at hp
    subst hp
    exact ⟨⟨Nat.ne_of_gt (l1 _ (.head _)), Nat.ne_of_gt (l1 _ (.tail _ (.head _))), Nat.ne_of_gt (l1 _ (.tail _ (.tail _ (.head _))))⟩, fun q hq => Nat.ne_of_lt (l1 q (.tail _ (.tail _ (.tail _ hq))))⟩
theorem grow_none {I C D : Addr} {oI oC oD : Obj} {s₁ : Shared} {h' : Heap} {tk : Nat} {nw bs : Led} {PA : Led → Value → Prop} {y : Value} (F : Fr h₀ L h' m) (N : News h₀ L h' ((I, oI) :: (C, oC) :: (D, oD) :: nw)) (pa : PA bs y) : GrowEnd h₀ L m s₁ I oI C oC D oD nw bs PA y { s₁ with heap := h', toks := tk } :=
  ⟨h', tk, [], rfl, F, N, (fun p hp => nomatch hp), pa⟩
theorem tuple_2 {prog : Program} {l : Addr} {news : Led} {Q : Value → Shared → Prop} {o : Obj} {ns : List Int} (F : Fr h₀ L s.heap m) (N : News h₀ L s.heap news) (hm : (l, o) ∈ news) (hR : RowO o ns)
    (new : ∀ (τ : Addr) (oτ : Obj) (h' : Heap), TupO oτ ns → Fr h₀ L h' m → News h₀ L h' ((τ, oτ) :: news) → (∀ p ∈ news, p.1 < τ) → Q (.ref τ) { s with heap := h' }) (old : TupO o ns → Q (.ref l) s) :
    wpAny (model prog w) A (call (.type "tuple") [.ref l]) Q E s := by
  obtain ⟨vs, n, hi, hl, rfl | rfl⟩ := hR
  · exact tuple_lst F N hm hi hl fun τ h' F' N' h1 => new τ _ h' ⟨vs, 0, hi, hl, rfl⟩ F' N' h1
  · exact call_tuple_same ⟨_, (N _ hm).1, rfl, n, rfl⟩ (old ⟨vs, n, hi, hl, rfl⟩)
theorem dict_l {D src c1 c2 c3 : Addr} {o o1 o2 o3 : Obj} {ys : List Value} {nn n : Nat} {key : Nat → Int} {R : List (List Int)} {VP : Led → Value → List Int → Prop} {rest : Led} {Q : Value → Shared → Prop} (up : ∀ {N N' : Led}, Up N N' → ∀ {v : Value} {ns : List Int}, VP N v ns → VP N' v ns) (hA : A.handled = none) (F : Fr h₀ L s.heap m) (N : News h₀ L s.heap ((c1, o1) :: (c2, o2) :: (c3, o3) :: (src, o) :: rest)) (hbig : h₀.NoLimit) (off : OwnOff rest [src, c1, c2, c3])
    (hm : (D, listOf ys.toArray nn) ∈ rest) (hl : ys.length = n) (hn : n ≤ 4) (hp : ∀ j, j < n → ∃ v, ys[j]? = some v ∧ PairAt VP rest v (key j) (R.getD j []))
    (ret : ∀ (d : Addr) (rest' : Led) (h' : Heap) (tk' : Nat), Up rest rest' → OwnOff rest' [src, c1, c2, c3] → DictV w VP rest' d (pvOf key R n) → Fr h₀ L h' m → News h₀ L h' ((c1, o1) :: (c2, o2) :: (c3, o3) :: (src, o) :: rest') → Q (.ref d) { s with heap := h', toks := tk' }) :
    wpAny (model PySem.Challenge.rw_ok0144_01.row.prog w) A (call (.type "dict") [.ref D]) Q E s := by
  refine dict_of (VP := VP) (key := key) (R := R) (N := rest) hA F N hbig (fun p hp => .tail _ (.tail _ (.tail _ (.tail _ hp)))) hm hl hn hp fun d od kvs h' tk' a1 a2 a3 lt F' N' => ret d ((d, od) :: rest) h' tk' (fun p hp _ => .tail _ hp) (fun p hp b hb => ?_) ⟨od, kvs, .head _, a1, a2, a3.imp fun _ _ => up fun p hp _ => .tail _ hp⟩ F' (news_sub N' fun p hp => ?_)
  · rcases List.mem_cons.mp hp with rfl | hp
    · simp only [List.mem_cons, List.not_mem_nil, or_false] at hb
      rcases hb with rfl | rfl | rfl | rfl
      · exact Nat.ne_of_gt (lt (b, o) (by simp))
      · exact Nat.ne_of_gt (lt (b, o1) (by simp))
      · exact Nat.ne_of_gt (lt (b, o2) (by simp))
      · exact Nat.ne_of_gt (lt (b, o3) (by simp))
    · exact off p hp b hb
  · simp only [List.mem_cons] at hp ⊢
    rcases hp with hp | hp | hp | hp | hp | hp <;> simp only [hp, true_or, or_true]
end
end LawC
section Due
open PyProof.Rows.LCg
theorem DueAt.cut {E : Led} {vs : List Value} {cs : List CDat} (h : DueAt E vs cs) : ∀ i, i < cs.length → ∃ E1 e t1 t2 t3 t4 n E2, E = E1 ++ (e, listOf #[.int (cs.getD i dflt).i t1, .int (cs.getD i dflt).a t2, .int (cs.getD i dflt).d t3, .int (cs.getD i dflt).q t4] n) :: E2 ∧ vs[i]? = some (.ref e) ∧ (∀ p ∈ E1, p.1 ≠ e) ∧ (∀ p ∈ E2, p.1 ≠ e) ∧
    ∀ t z, DueAt (E1 ++ (e, listOf #[.int (cs.getD i dflt).i t1, .int (cs.getD i dflt).a t2, .int (cs.getD i dflt).d t3, .int z t] n) :: E2) vs (cs.set i { cs.getD i dflt with q := z }) := by
  induction h with
  | nil => intro i hi; exact absurd hi (Nat.not_lt_zero _)
  | @cons e t1 t2 t3 t4 n E vs cs c ne r ih =>
    intro i hi
    cases i with
    | zero => exact ⟨[], e, t1, t2, t3, t4, n, E, rfl, rfl, (fun p hp => nomatch hp), ne, fun t z => DueAt.cons (c := { c with q := z }) ne r⟩
    | succ j =>
      obtain ⟨E1, e', u1, u2, u3, u4, n', E2, rfl, h1, h2, h3, h4⟩ := ih j (Nat.lt_of_succ_lt_succ hi)
      have e1 : (c :: cs).getD (j + 1) dflt = cs.getD j dflt := rfl
      rw [e1]
      refine ⟨(e, listOf #[.int c.i t1, .int c.a t2, .int c.d t3, .int c.q t4] n) :: E1, e', u1, u2, u3, u4, n', E2, rfl, h1, fun p hp => ?_, h3, fun t z => ?_⟩
      · rcases List.mem_cons.mp hp with rfl | hp
        · exact Ne.symm (ne _ (List.mem_append_right _ (.head _)))
        · exact h2 p hp
      · refine DueAt.cons (fun p hp => ?_) (h4 t z)
        rcases List.mem_append.mp hp with hp | hp
        · exact ne p (List.mem_append_left _ hp)
        · rcases List.mem_cons.mp hp with rfl | hp
          · have hh := ne _ (List.mem_append_right _ (List.Mem.head _)); exact hh
          · exact ne p (List.mem_append_right _ (.tail _ hp))
def mixi (zs : List Int) (cps : List CDat) : Nat → List CDat
  | 0 => cps
  | i + 1 => (mixi zs cps i).set i { (mixi zs cps i).getD i dflt with q := zs.getD i 0 }
theorem mixi_len (zs : List Int) (cps : List CDat) (i : Nat) : (mixi zs cps i).length = cps.length := by
  induction i with
  | zero => rfl
  | succ i ih => show ((mixi zs cps i).set _ _).length = _; rw [List.length_set, ih]
theorem mixi_get (zs : List Int) (cps : List CDat) (i : Nat) : ∀ j, (mixi zs cps i)[j]? = if j < i then cps[j]?.map (fun c => { c with q := zs.getD j 0 }) else cps[j]? := by
  induction i with
  | zero => intro j; simp [mixi]
  | succ i ih =>
    intro j
    show ((mixi zs cps i).set i { (mixi zs cps i).getD i dflt with q := zs.getD i 0 })[j]? = _
    by_cases hj : j = i
    · subst hj
      by_cases hl : j < cps.length
      · rw [List.getElem?_set_self (by rw [mixi_len]; exact hl), if_pos (Nat.lt_succ_self j), List.getD_eq_getElem?_getD, ih j, if_neg (Nat.lt_irrefl j), List.getElem?_eq_getElem hl]
        rfl
      · rw [List.getElem?_eq_none (by rw [List.length_set, mixi_len]; omega), List.getElem?_eq_none (by omega)]
        simp
    · rw [List.getElem?_set_ne (fun h => hj h.symm), ih j]
      by_cases h1 : j < i
      · rw [if_pos h1, if_pos (by omega)]
      · rw [if_neg h1, if_neg (by omega)]
theorem mixi_out (zs : List Int) (cps : List CDat) : mixi zs cps cps.length = (List.range cps.length).map fun j => { cps.getD j dflt with q := zs.getD j 0 } := by
  refine List.ext_getElem? fun j => ?_
  rw [mixi_get]
  by_cases h : j < cps.length
  · rw [if_pos h, List.getElem?_map, List.getElem?_range h, List.getElem?_eq_getElem h]
    simp [List.getD_eq_getElem?_getD, List.getElem?_eq_getElem h]
  · rw [if_neg h, List.getElem?_eq_none (by omega), List.getElem?_eq_none (by simp; omega)]
def DueItem (vs : List Value) (i : Nat) (e : Addr) : Prop := vs[i]? = some (.ref e)
def ZsItem (zs : List Int) (i : Nat) : Prop := i < zs.length
section
variable {prog : Program} {w : World} {A : Around} {E : Value → Shared → Prop} {s : Shared} {env : Env} {h₀ : Heap} {L : Addr} {m₀ : Str → Option Value} {Q : Flow → Shared → Prop}
def DueTurn (h₀ : Heap) (L : Addr) (m₀ : Str → Option Value) (I : Addr) (it : Obj) (e : Addr) (c : CDat) (t1 t2 t3 : Tok) (n : Nat) (z : Int) (fr : Led) (s₁ : Shared) (Q : Flow → Shared → Prop) (f : Flow) (s₂ : Shared) : Prop :=
  match f with
  | .ret v => Q (.ret v) s₂
  | .brk => Q .next s₂
  | _ => ∃ h' tk m' t4, s₂ = { s₁ with heap := h', toks := tk } ∧ Fr h₀ L h' m' ∧ (∀ y, y ≠ Str.ofString "place" → m' y = m₀ y) ∧ News h₀ L h' ((I, it) :: (e, listOf #[.int c.i t1, .int c.a t2, .int c.d t3, .int z t4] n) :: fr)
theorem due_end {I : Addr} {it : Obj} {e : Addr} {c : CDat} {t1 t2 t3 t4 : Tok} {n : Nat} {z : Int} {fr : Led} {s₁ : Shared} {h' : Heap} {tk : Nat} {m' : Str → Option Value} (F : Fr h₀ L h' m') (N : News h₀ L h' ((I, it) :: (e, listOf #[.int c.i t1, .int c.a t2, .int c.d t3, .int z t4] n) :: fr)) (hm : ∀ y, y ≠ Str.ofString "place" → m' y = m₀ y) :
    DueTurn h₀ L m₀ I it e c t1 t2 t3 n z fr s₁ Q .next { s₁ with heap := h', toks := tk } := ⟨h', tk, m', t4, rfl, F, hm, N⟩
theorem item_due {value slice : Expr} {ml e : Addr} {n i : Nat} {all : Led} {vs : List Value} {t : Tok} {Q : Value → Shared → Prop} (N : News h₀ L s.heap all) (hl : (ml, listOf vs.toArray n) ∈ all) (hi : DueItem vs i e) (h4 : i < 65536) (h : Q (.ref e) s)
    (hs : subscripted slice false (.ref ml) (.int i t) = operate [.ref ml, .int i t] (getItem (.ref ml) (.int i t)) := by with_unfolding_all rfl) :
    wpAny (model prog w) A (subscriptTail value slice (.ref ml) (.int (i : Int) t)) Q E s := by
  have hi' : vs[i]? = some (.ref e) := hi
  exact tail_any (News.isList N hl).typeIs PySem.F.slot_list_getitem.lookup (getItem_listL (News.isList N hl) (Int.natCast_nonneg i) (by omega) (x := .ref e) (by simpa using hi') h) hs
theorem item_zs {value slice : Expr} {sl : Addr} {n i : Nat} {all : Led} {vs : List Value} {zs : List Int} {t : Tok} {Q : Value → Shared → Prop} (N : News h₀ L s.heap all) (hl : (sl, listOf vs.toArray n) ∈ all) (hI : IntsAre vs zs) (hi : i < zs.length) (h4 : i < 65536) (h : ∀ u, Q (.int (zs.getD i 0) u) s)
    (hs : subscripted slice false (.ref sl) (.int i t) = operate [.ref sl, .int i t] (getItem (.ref sl) (.int i t)) := by with_unfolding_all rfl) :
    wpAny (model prog w) A (subscriptTail value slice (.ref sl) (.int (i : Int) t)) Q E s := by
  have hv : i < vs.length := by rw [hI.length]; exact hi
  obtain ⟨p, u, e1, e2⟩ := IntsAre.at hI i _ (List.getElem?_eq_getElem hv)
  have hg : zs.getD i 0 = p := by rw [List.getD_eq_getElem?_getD, e2]; rfl
  refine tail_any (News.isList N hl).typeIs PySem.F.slot_list_getitem.lookup (getItem_listL (News.isList N hl) (Int.natCast_nonneg i) (by omega) (x := .int p u) ?_ ?_) hs
  · simp [List.getElem?_eq_getElem hv, e1]
  · rw [← hg]; exact h u
theorem for_due {target : Expr} {body : List Stmt} {rg r src c1 c2 c3 sl : Addr} {t u v : Tok} {o o1 o2 o3 : Obj} {l rest₀ rest : Led} {f : FDat} {cps : List CDat} {zs : List Int} {ss : List Value} {ns n : Nat}
    (hh : A.handled = none) (hr : IsRange s.heap rg 0 (n : Int) 1 t u v) (hn : n = cps.length) (h4 : cps.length ≤ 4) (F : Fr h₀ L s.heap m₀) (off : OwnOff rest [src, c1, c2, c3]) (N : News h₀ L s.heap ((c1, o1) :: (c2, o2) :: (c3, o3) :: (src, o) :: rest)) (rn : RowNew src rest₀ rest r f cps)
    (hI : IntsAre ss zs) (ms : (sl, listOf ss.toArray ns) ∈ l) (ul : Up l rest₀) (hz : zs.length = cps.length)
    (hE : PassesOwn (model prog w) A env E) (ht : ∀ v, letOwnedTupleGo target (.ref s.heap.objs.size) v = pure ())
    (turn : ∀ (i : Nat) (I : Addr) (t : Tok) (u : Option Value) (e ml : Addr) (vs : List Value) (c : CDat) (t1 t2 t3 t4 a1 a2 a3 a4 a5 : Tok) (n nr nm : Nat) (Y : Led) (h : Heap) (tk : Nat), i < 4 → i < cps.length → i < zs.length → DueItem vs i e → (sl, listOf ss.toArray ns) ∈ Y → OwnOff Y [e] → (@Ne Nat e I ∧ @Ne Nat e c1 ∧ @Ne Nat e c2 ∧ @Ne Nat e c3 ∧ @Ne Nat e src ∧ @Ne Nat e r ∧ @Ne Nat e ml) →
      Fr h₀ L h (fun y => if y = Str.ofString "place" then u else m₀ y) → News h₀ L h ((I, itR ((i + 1 : Nat) : Int) ((cps.length : Int) - ((i + 1 : Nat) : Int))) :: (e, listOf #[.int c.i t1, .int c.a t2, .int c.d t3, .int c.q t4] n) :: (c1, o1) :: (c2, o2) :: (c3, o3) :: (src, o) :: (r, listOf #[.str f.kind a1, .int f.p a2, .int f.h a3, .int f.w a4, .int f.n a5, .ref ml] nr) :: (ml, listOf vs.toArray nm) :: Y) →
      wpAny (model prog w) A (assign target env (.int (i : Int) t)) (fun _ s₂ => wpAny (model prog w) A (execs body env) (DueTurn h₀ L m₀ I (itR ((i + 1 : Nat) : Int) ((cps.length : Int) - ((i + 1 : Nat) : Int))) e c t1 t2 t3 n (zs.getD i 0) ((c1, o1) :: (c2, o2) :: (c3, o3) :: (src, o) :: (r, listOf #[.str f.kind a1, .int f.p a2, .int f.h a3, .int f.w a4, .int f.n a5, .ref ml] nr) :: (ml, listOf vs.toArray nm) :: Y) { s with heap := h, toks := tk } Q) E s₂) E { s with heap := h, toks := tk })
    (done : ∀ (u : Option Value) (rest' : Led) (h : Heap) (tk : Nat), Up rest₀ rest' → OwnOff rest' [src, c1, c2, c3] → RowAt rest' r f (mixi zs cps cps.length) → Fr h₀ L h (fun y => if y = Str.ofString "place" then u else m₀ y) → News h₀ L h ((c1, o1) :: (c2, o2) :: (c3, o3) :: (src, o) :: rest') → Q .next { s with heap := h, toks := tk }) :
    wpAny (model prog w) A (pyIter (.ref rg)) (fun it s₂ => codeAny (model prog w) A (.forLoop target it body [] env) (fun r s' => match r with | .ok f => Q f s' | .error e => cameBackBy (model prog w) A env E e s') s₂) E s := by
  subst hn
  obtain ⟨ml, E0, vs, a1, a2, a3, a4, a5, nr, nm, rfl, dE, d1, d2, d3, d4, d5⟩ := rn
  have offE : ∀ p ∈ E0, ∀ b ∈ [src, c1, c2, c3], p.1 ≠ b := fun p hp b hb => off p (.tail _ (.tail _ (List.mem_append_left _ hp))) b hb
  have offR : ∀ p ∈ rest₀, ∀ b ∈ [src, c1, c2, c3], p.1 ≠ b := fun p hp b hb => off p (.tail _ (.tail _ (List.mem_append_right _ hp))) b hb
  refine for_any (fun i m₁ news₁ => ∃ (u : Option Value) (E' : Led), m₁ = (fun y => if y = Str.ofString "place" then u else m₀ y) ∧ news₁ = (c1, o1) :: (c2, o2) :: (c3, o3) :: (src, o) :: (r, listOf #[.str f.kind a1, .int f.p a2, .int f.h a3, .int f.w a4, .int f.n a5, .ref ml] nr) :: (ml, listOf vs.toArray nm) :: (E' ++ rest₀) ∧ DueAt E' vs (mixi zs cps i) ∧ ∀ p ∈ E', ∃ q ∈ E0, q.1 = p.1)
    hh hr ?_ (by first | exact rangeSize_nat _ _ | rfl) F N ⟨m₀ (Str.ofString "place"), E0, funext fun y => by split <;> simp_all, rfl, dE, fun p hp => ⟨p, hp, rfl⟩⟩ ?_ ?_ hE ht
  · exact small_one (by omega) (by omega) (by omega) (by omega)
  · rintro i I t m₁ news₁ h tk hi ⟨u, E', rfl, rfl, dE', same⟩ offI F N
    have hi' : i < (mixi zs cps i).length := by rw [mixi_len]; exact hi
    obtain ⟨E1, e, t1, t2, t3, t4, n, E2, rfl, g1, g2, g3, g4⟩ := dE'.cut i hi'
    obtain ⟨q0, hq0, eq0⟩ := same (e, listOf #[.int ((mixi zs cps i).getD i dflt).i t1, .int ((mixi zs cps i).getD i dflt).a t2, .int ((mixi zs cps i).getD i dflt).d t3, .int ((mixi zs cps i).getD i dflt).q t4] n) (List.mem_append_right _ (.head _))
    have eq0' : q0.1 = e := eq0
    have x1 := offE q0 hq0
    have x2 := d5 q0 hq0
    rw [eq0'] at x1 x2
    have heI : e ≠ I := offI (e, listOf #[.int ((mixi zs cps i).getD i dflt).i t1, .int ((mixi zs cps i).getD i dflt).a t2, .int ((mixi zs cps i).getD i dflt).d t3, .int ((mixi zs cps i).getD i dflt).q t4] n) (by simp only [List.mem_cons, List.mem_append, true_or, or_true])
    have sMem : (sl, listOf ss.toArray ns) ∈ rest₀ := ul _ ms nc_list
    refine wpAny_mono (turn i I t u e ml vs ((mixi zs cps i).getD i dflt) t1 t2 t3 t4 a1 a2 a3 a4 a5 n nr nm (E1 ++ (E2 ++ rest₀)) h tk (by omega) hi (by omega) g1 (List.mem_append_right _ (List.mem_append_right _ sMem)) (fun p hp b hb => ?_) ⟨?_, ?_, ?_, ?_, ?_, ?_, ?_⟩ F (news_sub N fun p hp => ?_)) (fun _ s₂ h₂ => wpAny_mono h₂ (fun fl s₃ h₃ => ?_) fun _ _ e => e) fun _ _ e => e
    · rw [List.mem_singleton.mp hb]
      rcases List.mem_append.mp hp with hp | hp
      · exact g2 p hp
      · rcases List.mem_append.mp hp with hp | hp
        · exact g3 p hp
        · exact x2.2.2.2 p hp
    · exact heI
    · exact x1 _ (by simp)
    · exact x1 _ (by simp)
    · exact x1 _ (by simp)
    · exact x1 _ (by simp)
    · exact x2.2.1
    · exact x2.2.2.1
    · simp only [List.mem_cons, List.mem_append] at hp ⊢
      rcases hp with hp | hp | hp | hp | hp | hp | hp | hp | hp | hp | hp <;> simp only [hp, true_or, or_true]
    · have fin : (∃ h' tk' m' t5, s₃ = { { s with heap := h, toks := tk } with heap := h', toks := tk' } ∧ Fr h₀ L h' m' ∧ (∀ y, y ≠ Str.ofString "place" → m' y = m₀ y) ∧ News h₀ L h' ((I, itR ((i + 1 : Nat) : Int) ((cps.length : Int) - ((i + 1 : Nat) : Int))) :: (e, listOf #[.int ((mixi zs cps i).getD i dflt).i t1, .int ((mixi zs cps i).getD i dflt).a t2, .int ((mixi zs cps i).getD i dflt).d t3, .int (zs.getD i 0) t5] n) :: (c1, o1) :: (c2, o2) :: (c3, o3) :: (src, o) :: (r, listOf #[.str f.kind a1, .int f.p a2, .int f.h a3, .int f.w a4, .int f.n a5, .ref ml] nr) :: (ml, listOf vs.toArray nm) :: (E1 ++ (E2 ++ rest₀)))) →
          TurnEnd h₀ L (fun m₁ news₁ => ∃ (u : Option Value) (E' : Led), m₁ = (fun y => if y = Str.ofString "place" then u else m₀ y) ∧ news₁ = (c1, o1) :: (c2, o2) :: (c3, o3) :: (src, o) :: (r, listOf #[.str f.kind a1, .int f.p a2, .int f.h a3, .int f.w a4, .int f.n a5, .ref ml] nr) :: (ml, listOf vs.toArray nm) :: (E' ++ rest₀) ∧ DueAt E' vs (mixi zs cps (i + 1)) ∧ ∀ p ∈ E', ∃ q ∈ E0, q.1 = p.1) I (itR ((i + 1 : Nat) : Int) ((cps.length : Int) - ((i + 1 : Nat) : Int))) { s with heap := h, toks := tk } s₃ := by
        rintro ⟨h', tk', m', t5, rfl, F', hm', N'⟩
        refine ⟨h', tk', m', (c1, o1) :: (c2, o2) :: (c3, o3) :: (src, o) :: (r, listOf #[.str f.kind a1, .int f.p a2, .int f.h a3, .int f.w a4, .int f.n a5, .ref ml] nr) :: (ml, listOf vs.toArray nm) :: ((E1 ++ (e, listOf #[.int ((mixi zs cps i).getD i dflt).i t1, .int ((mixi zs cps i).getD i dflt).a t2, .int ((mixi zs cps i).getD i dflt).d t3, .int (zs.getD i 0) t5] n) :: E2) ++ rest₀), rfl, F', news_sub N' fun p hp => ?_, fun p hp => ?_,
          m' (Str.ofString "place"), E1 ++ (e, listOf #[.int ((mixi zs cps i).getD i dflt).i t1, .int ((mixi zs cps i).getD i dflt).a t2, .int ((mixi zs cps i).getD i dflt).d t3, .int (zs.getD i 0) t5] n) :: E2, funext fun y => ?_, rfl, g4 t5 (zs.getD i 0), fun p hp => ?_⟩
        · simp only [List.mem_cons, List.mem_append] at hp ⊢
          rcases hp with hp | hp | hp | hp | hp | hp | hp | ((hp | hp | hp) | hp) <;> simp only [hp, true_or, or_true]
        · have old : ∀ {a : Addr} {oa : Obj}, (a, oa) ∈ (c1, o1) :: (c2, o2) :: (c3, o3) :: (src, o) :: (r, listOf #[.str f.kind a1, .int f.p a2, .int f.h a3, .int f.w a4, .int f.n a5, .ref ml] nr) :: (ml, listOf vs.toArray nm) :: ((E1 ++ (e, listOf #[.int ((mixi zs cps i).getD i dflt).i t1, .int ((mixi zs cps i).getD i dflt).a t2, .int ((mixi zs cps i).getD i dflt).d t3, .int ((mixi zs cps i).getD i dflt).q t4] n) :: E2) ++ rest₀) → a ≠ I := fun {a oa} hm => offI _ hm
          obtain ⟨pa, po⟩ := p
          simp only [List.mem_cons, List.mem_append, Prod.mk.injEq] at hp
          rcases hp with hp | hp | hp | hp | hp | hp | ((hp | hp | hp) | hp)
          · exact old (oa := po) (by simp only [List.mem_cons, List.mem_append, Prod.mk.injEq, hp, true_or, or_true, and_self])
          · exact old (oa := po) (by simp only [List.mem_cons, List.mem_append, Prod.mk.injEq, hp, true_or, or_true, and_self])
          · exact old (oa := po) (by simp only [List.mem_cons, List.mem_append, Prod.mk.injEq, hp, true_or, or_true, and_self])
          · exact old (oa := po) (by simp only [List.mem_cons, List.mem_append, Prod.mk.injEq, hp, true_or, or_true, and_self])
          · exact old (oa := po) (by simp only [List.mem_cons, List.mem_append, Prod.mk.injEq, hp, true_or, or_true, and_self])
          · exact old (oa := po) (by simp only [List.mem_cons, List.mem_append, Prod.mk.injEq, hp, true_or, or_true, and_self])
          · exact old (oa := po) (by simp only [List.mem_cons, List.mem_append, Prod.mk.injEq, hp, true_or, or_true, and_self])
          · rw [hp.1]; exact heI
          · exact old (oa := po) (by simp only [List.mem_cons, List.mem_append, Prod.mk.injEq, hp, true_or, or_true, and_self])
          · exact old (oa := po) (by simp only [List.mem_cons, List.mem_append, Prod.mk.injEq, hp, true_or, or_true, and_self])
        · by_cases hy : y = Str.ofString "place"
          · rw [if_pos hy, hy]
          · rw [if_neg hy]; exact hm' y hy
        · rcases List.mem_append.mp hp with hp | hp
          · exact same p (List.mem_append_left _ hp)
          · rcases List.mem_cons.mp hp with rfl | hp
            · exact ⟨q0, hq0, eq0'⟩
            · exact same p (List.mem_append_right _ (.tail _ hp))
      cases fl with
      | ret v => exact h₃
      | brk => exact h₃
      | next => exact fin h₃
      | cont => exact fin h₃
  · rintro m₁ news₁ h tk ⟨u, E', rfl, rfl, dE', same⟩ F N
    refine done u ((r, listOf #[.str f.kind a1, .int f.p a2, .int f.h a3, .int f.w a4, .int f.n a5, .ref ml] nr) :: (ml, listOf vs.toArray nm) :: (E' ++ rest₀)) h tk (fun p hp _ => .tail _ (.tail _ (List.mem_append_right _ hp))) (fun p hp b hb => ?_) ⟨ml, a1, a2, a3, a4, a5, nr, nm, vs, .head _, .tail _ (.head _), dE'.mem.imp fun _ _ => MemAt.mono fun p hp => .tail _ (.tail _ (List.mem_append_left _ hp))⟩ F N
    rcases List.mem_cons.mp hp with rfl | hp
    · exact off _ (.head _) b hb
    · rcases List.mem_cons.mp hp with rfl | hp
      · exact off _ (.tail _ (.head _)) b hb
      · rcases List.mem_append.mp hp with hp | hp
        · obtain ⟨q, hq, e⟩ := same p hp
          rw [← e]; exact offE q hq b hb
        · exact offR p hp b hb
end
end Due
section Plain
theorem dd_prefix (l acc : List (List Int)) : ∃ t, l.foldl ddStep acc = acc ++ t := by
  induction l generalizing acc with
  | nil => exact ⟨[], by simp⟩
  | cons r l ih =>
    rw [List.foldl_cons]
    obtain ⟨t, e⟩ := ih (ddStep acc r)
    rw [e]
    unfold ddStep
    split
    · exact ⟨t, rfl⟩
    · exact ⟨r :: t, by simp⟩
theorem dd_mem (l acc : List (List Int)) (x : List Int) : x ∈ l.foldl ddStep acc ↔ x ∈ acc ∨ x ∈ l := by
  induction l generalizing acc with
  | nil => simp
  | cons r l ih =>
    rw [List.foldl_cons, ih]
    unfold ddStep
    split
    · rename_i h
      constructor
      · rintro (h1 | h1)
        · exact .inl h1
        · exact .inr (.tail _ h1)
      · rintro (h1 | h1)
        · exact .inl h1
        · rcases List.mem_cons.mp h1 with rfl | h1
          · exact .inl h
          · exact .inr h1
    · constructor
      · rintro (h1 | h1)
        · rcases List.mem_append.mp h1 with h1 | h1
          · exact .inl h1
          · rw [List.mem_singleton.mp h1]; exact .inr (.head _)
        · exact .inr (.tail _ h1)
      · rintro (h1 | h1)
        · exact .inl (List.mem_append_left _ h1)
        · rcases List.mem_cons.mp h1 with rfl | h1
          · exact .inl (List.mem_append_right _ (.head _))
          · exact .inr h1
theorem dd_mem' (l : List (List Int)) (x : List Int) : x ∈ dd l ↔ x ∈ l := by
  unfold dd; rw [dd_mem]; simp
def isFirst (R : List (List Int)) (k : Nat) : Bool := decide (R.getD k [] ∉ R.take k)
theorem dd_length (R : List (List Int)) : ∀ p, p ≤ R.length → (dd (R.take p)).length = ((List.range p).filter (isFirst R)).length := by
  intro p
  induction p with
  | zero => intro _; simp [dd]
  | succ p ih =>
    intro hp
    rw [dd_snoc R p hp, List.range_succ, List.filter_append, List.length_append, ← ih (by omega)]
    unfold ddStep
    by_cases h : R.getD p [] ∈ dd (R.take p)
    · rw [if_pos h, List.filter_cons_of_neg]
      · simp
      · simpa [isFirst] using (dd_mem' _ _).mp h
    · rw [if_neg h, List.filter_cons_of_pos]
      · simp
      · simpa [isFirst] using fun h' => h ((dd_mem' _ _).mpr h')
theorem ks_snoc (n : Nat) : rangeKs 0 (n + 1) = rangeKs 0 n ++ [(n : Int)] := by
  simp [rangeKs, List.range_succ]
theorem firsts_eq (R : List (List Int)) (n : Nat) : (rangeKs 0 n).foldl (firstsStep R) [] = ((List.range n).filter (isFirst R)).map (fun k : Nat => (k : Int)) := by
  induction n with
  | zero => rfl
  | succ n ih =>
    rw [ks_snoc, List.foldl_append, ih, List.range_succ, List.filter_append, List.map_append]
    show firstsStep R _ (n : Int) = _
    unfold firstsStep
    simp only [Int.toNat_natCast]
    by_cases h : R.getD n [] ∈ R.take n
    · rw [if_pos h, List.filter_cons_of_neg]
      · simp
      · simpa [isFirst] using h
    · rw [if_neg h, List.filter_cons_of_pos]
      · simp
      · simpa [isFirst] using h
theorem filter_lt (P : Nat → Bool) (p : Nat) : ∀ n, p ≤ n → ((List.range n).filter P).filter (fun q => decide (q < p)) = (List.range p).filter P := by
  intro n
  induction n with
  | zero => intro h; have : p = 0 := by omega
            subst this; rfl
  | succ n ih =>
    intro h
    rw [List.range_succ, List.filter_append, List.filter_append]
    by_cases e : p ≤ n
    · rw [ih e]
      have : (List.filter (fun q => decide (q < p)) (List.filter P [n])) = [] := by
        rw [List.filter_eq_nil_iff]
        intro a ha
        have := List.mem_singleton.mp (List.mem_filter.mp ha).1
        simp; omega
      rw [this, List.append_nil]
    · have e' : p = n + 1 := by omega
      subst e'
      rw [List.range_succ, List.filter_append]
      congr 1
      · rw [List.filter_eq_self]
        intro a ha
        have := List.mem_range.mp (List.mem_filter.mp ha).1
        simp; omega
      · rw [List.filter_eq_self]
        intro a ha
        have := List.mem_singleton.mp (List.mem_filter.mp ha).1
        simp; omega
theorem numb_len (R : List (List Int)) (i : Nat) (hi : i < R.length) : numb R i = ((dd (R.take (R.idxOf (R.getD i [])))).length : Int) := by
  have hm : R.getD i [] ∈ R := by
    rw [List.getD_eq_getElem?_getD, List.getElem?_eq_getElem hi]; exact List.getElem_mem hi
  have hp : R.idxOf (R.getD i []) < R.length := List.idxOf_lt_length_iff.mpr hm
  unfold numb firsts
  rw [firsts_eq, dd_length R _ (Nat.le_of_lt hp), ← filter_lt (isFirst R) _ R.length (Nat.le_of_lt hp), List.filter_map, List.length_map]
  congr 2
  refine List.filter_congr fun q _ => ?_
  simp [Function.comp]
theorem numb_slot (R : List (List Int)) (i : Nat) (hi : i < R.length) : numb R i = ((slotOf R i : Nat) : Int) := by
  rw [numb_len R i hi]
  have hm : R.getD i [] ∈ R := by
    rw [List.getD_eq_getElem?_getD, List.getElem?_eq_getElem hi]; exact List.getElem_mem hi
  have hp : R.idxOf (R.getD i []) < R.length := List.idxOf_lt_length_iff.mpr hm
  have hpi : R.idxOf (R.getD i []) ≤ i := by
    refine Nat.le_of_not_lt fun h => ?_
    have z := List.not_of_lt_findIdx (p := (· == R.getD i [])) (xs := R) (i := i) h
    simp [List.getD_eq_getElem?_getD, List.getElem?_eq_getElem hi] at z
  have hx : R.getD (R.idxOf (R.getD i [])) [] = R.getD i [] := by
    rw [List.getD_eq_getElem?_getD, List.getElem?_eq_getElem hp]
    exact List.getElem_idxOf hp
  have nm : R.getD i [] ∉ dd (R.take (R.idxOf (R.getD i []))) := by
    rw [dd_mem']
    intro h
    obtain ⟨j, hj, e⟩ := List.getElem_of_mem h
    rw [List.length_take] at hj
    have hj' : j < R.idxOf (R.getD i []) := by omega
    have z := List.not_of_lt_findIdx (p := (· == R.getD i [])) (xs := R) (i := j) hj'
    rw [List.getElem_take] at e
    simp [e] at z
  unfold slotOf
  obtain ⟨t, e⟩ : ∃ t, dd (R.take (i + 1)) = dd (R.take (R.idxOf (R.getD i []) + 1)) ++ t := by
    have : R.take (i + 1) = R.take (R.idxOf (R.getD i []) + 1) ++ (R.take (i + 1)).drop (R.idxOf (R.getD i []) + 1) := by
      have h2 := List.take_append_drop (R.idxOf (R.getD i []) + 1) (R.take (i + 1))
      rw [List.take_take, Nat.min_eq_left (by omega)] at h2
      exact h2.symm
    rw [this]
    unfold dd
    rw [List.foldl_append]
    exact dd_prefix _ _
  rw [e, dd_snoc R _ hp, hx]
  unfold ddStep
  rw [if_neg nm, List.append_assoc, List.idxOf_append, if_neg nm]
  simp
theorem mixi_eq {R : List (List Int)} {cps : List CDat} (h : R.length = cps.length) : mixi ((List.range R.length).map (numb R)) cps cps.length = outc cps R cps.length := by
  rw [mixi_out]
  unfold outc
  refine List.map_congr_left fun j hj => ?_
  have hj' : j < R.length := by rw [h]; exact List.mem_range.mp hj
  have e : ((List.range R.length).map (numb R)).getD j 0 = numb R j := by
    rw [List.getD_eq_getElem?_getD, List.getElem?_map, List.getElem?_range hj']; rfl
  rw [e, numb_slot R j hj']
theorem tabs_eq {R : List (List Int)} : tabs R R.length = pvOf (numb R) R R.length := by
  rw [tabs_pv]
  exact pvOf_congr fun i hi => (numb_slot R i hi).symm
theorem outc_len (cps : List CDat) (R : List (List Int)) (n : Nat) : (outc cps R n).length = n := by simp [outc]
end Plain
section OfK
set_option maxHeartbeats 4000000 in
theorem of_kind_c (w : World) : ∀ {loose : List Str} {mean : ExcName → Option Value} {mg mb : Str → Option Value} {dp un : Nat} {gd : Option (List Code)} {cn : Str} {cs : Scope} {a : Addr} {ccd : Value} {cl : List (Str × Addr)} {outer : List Env} {A₀ : Around} {base h₀ : Heap} {L : Addr} {m : Str → Option Value} {s : Shared} {Q E : Value → Shared → Prop} {x dx lst : Addr} {k kd : Str} {tk : Tok} {H1 H2 H3 H4 H5 H6 : Int} {t1 t2 t3 t4 t5 t6 u1 u2 u3 u4 u6 : Tok} {nn : Nat} {p hg wd n : Int} {rest : Led},
    Below A₀ base outer h₀ → Fr h₀ L s.heap m → (Mine.kv.heap_1_1 w.params).In h₀ → News h₀ L s.heap (rest) → Top Mine.kv.view_1_2 loose mean mg mb h₀ → cs.kind = .function → (x, instObj 111 dx) ∈ rest → (dx, dictOf [⟨H1, .str (Str.ofString "kind") t1, .str kd u1⟩, ⟨H2, .str (Str.ofString "precision") t2, .int p u2⟩, ⟨H3, .str (Str.ofString "height") t3, .int hg u3⟩, ⟨H4, .str (Str.ofString "width") t4, .int wd u4⟩, ⟨H5, .str (Str.ofString "components") t5, .ref lst⟩, ⟨H6, .str (Str.ofString "n") t6, .int n u6⟩] nn) ∈ rest → dp + 10 < recursionLimit → un + 100 < cLine →
    (∀ (z dz : Addr) (od : Obj) (h' : Heap) (tk' : Nat), FrameD od k p hg wd lst n → Fr h₀ L h' m → News h₀ L h' ((z, instObj 111 dz) :: (dz, od) :: rest) → AllLt dz rest → @LT.lt Nat _ dz z → Q (.ref z) { s with heap := h', toks := tk' }) →
    wpAny (model PySem.Challenge.rw_ok0144_01.row.prog w) (ktrTop dp un gd cn cs L a ccd cl outer) (call (.ref 293) [.ref x, .str k tk]) Q E s := by
  k_fill
  intro loose mean mg mb dp un gd cn cs a ccd cl outer A₀ base h₀ L m s Q E x dx lst k kd tk H1 H2 H3 H4 H5 H6 t1 t2 t3 t4 t5 t6 u1 u2 u3 u4 u6 nn p hg wd n rest B F X N T hk m1 m2 hd hu hret
  have N0 := news_more (l := [(x, instObj 111 dx), (dx, dictOf [⟨H1, .str (Str.ofString "kind") t1, .str kd u1⟩, ⟨H2, .str (Str.ofString "precision") t2, .int p u2⟩, ⟨H3, .str (Str.ofString "height") t3, .int hg u3⟩, ⟨H4, .str (Str.ofString "width") t4, .int wd u4⟩, ⟨H5, .str (Str.ofString "components") t5, .ref lst⟩, ⟨H6, .str (Str.ofString "n") t6, .int n u6⟩] nn)]) N ⟨m1, m2, trivial⟩
  simp only [List.cons_append, List.nil_append] at N0
  clear N
  refine wpAny_call ?_
  k_dflt cell_enter
  k_steps
  (rename Fr _ _ _ _ => kF9); (rename News _ _ _ _ => kN9)
  exact hret _ _ _ _ _ ⟨_, _, _, _, _, _, _, _, _, _, _, _, _, _, _, _, _, _, rfl⟩ kF9 (news_cut [_, _] [_, _] kN9) (by first | with_reducible assumption | exact and1 (by with_reducible assumption) | exact and2 (by with_reducible assumption) | exact and3 (by with_reducible assumption)) (by omega)
theorem of_kind_l {w : World} {loose : List Str} {mean : ExcName → Option Value} {mg mb : Str → Option Value} {dp un : Nat} {gd : Option (List Code)} {cn : Str} {cs : Scope} {a : Addr} {ccd : Value} {cl : List (Str × Addr)} {outer : List Env} {A₀ : Around} {base h₀ : Heap} {L : Addr} {m : Str → Option Value} {s : Shared} {Q E : Value → Shared → Prop} {src c1 c2 c3 : Addr} {o o1 o2 o3 : Obj} {rest l : Led} {x : Addr} {k : Str} {tk : Tok} {f : FDat} {cps : List CDat} (B : Below A₀ base outer h₀) (F : Fr h₀ L s.heap m) (X : (Mine.kv.heap_1_1 w.params).In h₀) (off : OwnOff rest [src, c1, c2, c3]) (N : News h₀ L s.heap ((c1, o1) :: (c2, o2) :: (c3, o3) :: (src, o) :: rest)) (T : Top Mine.kv.view_1_2 loose mean mg mb h₀) (hk : cs.kind = .function)
    (fr : FrameAt l x f cps) (u : Up l rest) (hd : dp + 10 < recursionLimit) (hu : un + 100 < cLine)
    (ret : ∀ (z : Addr) (rest' : Led) (h' : Heap) (tk' : Nat), Up rest rest' → OwnOff rest' [src, c1, c2, c3] → FrameAt rest' z { f with kind := k } cps → Fr h₀ L h' m → News h₀ L h' ((c1, o1) :: (c2, o2) :: (c3, o3) :: (src, o) :: rest') → Q (.ref z) { s with heap := h', toks := tk' }) :
    wpAny (model PySem.Challenge.rw_ok0144_01.row.prog w) (ktrTop dp un gd cn cs L a ccd cl outer) (call (.ref 293) [.ref x, .str k tk]) Q E s := by
  obtain ⟨dx, od, lst, nl, vs, a, b, hD, c, zz⟩ := fr.up u
  obtain ⟨H1, H2, H3, H4, H5, H6, t1, t2, t3, t4, t5, t6, u1, u2, u3, u4, u6, nn, rfl⟩ := hD
  refine of_kind_c w (rest := (c1, o1) :: (c2, o2) :: (c3, o3) :: (src, o) :: rest) B F X N T hk (.tail _ (.tail _ (.tail _ (.tail _ a)))) (.tail _ (.tail _ (.tail _ (.tail _ b)))) hd hu fun z dz od' h' tk' hF F' N' lt lz =>
    ret z ((z, instObj 111 dz) :: (dz, od') :: rest) h' tk' (fun p hp _ => .tail _ (.tail _ hp)) (fun p hp b hb => ?_) ⟨dz, od', lst, nl, vs, .head _, .tail _ (.head _), hF, .tail _ (.tail _ c), zz.imp fun _ _ => CompAt.mono fun p hp => .tail _ (.tail _ hp)⟩ F' (news_sub N' fun p hp => ?_)
  · obtain ⟨g1, g2, g3, g4, _⟩ := lt
    simp only [List.mem_cons, List.not_mem_nil, or_false] at hp hb
    rcases hp with rfl | rfl | hp
    · rcases hb with rfl | rfl | rfl | rfl <;> (refine neN ?_; dsimp only at *; omega)
    · rcases hb with rfl | rfl | rfl | rfl <;> (refine neN ?_; dsimp only at *; omega)
    · exact off p hp b (by simp only [List.mem_cons, List.not_mem_nil, or_false]; exact hb)
  · simp only [List.mem_cons] at hp ⊢
    rcases hp with hp | hp | hp | hp | hp | hp | hp <;> simp only [hp, true_or, or_true]
end OfK
section Guess
/-- the model's name by the number of components, a segment of JFIF's, Adobe's transform -/
def gmod (many : Nat) (jf : Bool) (tr : Option Int) : Str :=
  if many = 1 then Str.ofString "grey"
  else if many = 3 then
    if jf then Str.ofString "ycc"
    else match tr with
      | some t => if t = 0 then Str.ofString "rgb" else Str.ofString "ycc"
      | none => Str.ofString "ycc"
  else if many = 4 then (if tr = some 2 then Str.ofString "ycck" else Str.ofString "cmyk")
  else Str.ofString "raw"
def trV : Option Int → Tok → Value
  | some t, u => .int t u
  | none, _ => .none
def ids4 : List Int := [40, 43, 46, 49]
theorem many4 {many : Nat} (h1 : 1 ≤ many) (h4 : many ≤ 4) : many = 1 ∨ many = 2 ∨ many = 3 ∨ many = 4 := by omega
theorem q_str {Q : Value → Shared → Prop} {a b : Str} {t : Tok} {s : Shared} (e : a = b) (h : Q (.str a t) s) : Q (.str b t) s := e ▸ h
set_option maxHeartbeats 4000000 in
theorem guess_c (w : World) : ∀ {loose : List Str} {mean : ExcName → Option Value} {mg mb : Str → Option Value} {dp un : Nat} {gd : Option (List Code)} {cn : Str} {cs : Scope} {a : Addr} {ccd : Value} {cl : List (Str × Addr)} {outer : List Env} {A₀ : Around} {base h₀ : Heap} {L : Addr} {m : Str → Option Value} {s : Shared} {Q E : Value → Shared → Prop} {many : Nat} {jf : Bool} {tr : Option Int} {il : Addr} {vs : List Value} {n : Nat} {tm tt : Tok} {news : Led},
    Below A₀ base outer h₀ → Fr h₀ L s.heap m → (Mine.kv.heap_1_1 w.params).In h₀ → News h₀ L s.heap ((il, listOf vs.toArray n) :: news) → Top Mine.kv.view_1_2 loose mean mg mb h₀ → cs.kind = .function → 1 ≤ many → many ≤ 4 → IntsAre vs (ids4.take many) → dp + 10 < recursionLimit → un + 100 < cLine →
    (∀ (t : Tok) (h' : Heap) (tk' : Nat), Fr h₀ L h' m → News h₀ L h' ((il, listOf vs.toArray n) :: news) → Q (.str (gmod many jf tr) t) { s with heap := h', toks := tk' }) →
    wpAny (model PySem.Challenge.rw_ok0144_01.row.prog w) (ktrTop dp un gd cn cs L a ccd cl outer) (call (.ref 173) [.int (many : Int) tm, .ref il, .bool jf, trV tr tt]) Q E s := by
  k_fill
  intro loose mean mg mb dp un gd cn cs a ccd cl outer A₀ base h₀ L m s Q E many jf tr il vs n tm tt news B F X N T hk h1 h4 hI hd hu hret
  rcases many4 h1 h4 with rfl | rfl | rfl | rfl
  · refine wpAny_call ?_
    k_dflt cell_enter
    k_steps
    all_goals ((rename Fr _ _ _ _ => kF9); (rename News _ _ _ _ => kN9); exact hret _ _ _ kF9 kN9)
  · refine wpAny_call ?_
    k_dflt cell_enter
    k_steps
    all_goals ((rename Fr _ _ _ _ => kF9); (rename News _ _ _ _ => kN9); exact hret _ _ _ kF9 kN9)
  · have hi3 : IntsAre vs [40, 43, 46] := hI
    clear hI
    cases jf with
    | true =>
      refine wpAny_call ?_
      k_dflt cell_enter
      k_steps
      all_goals ((rename Fr _ _ _ _ => kF9); (rename News _ _ _ _ => kN9); exact hret _ _ _ kF9 kN9)
    | false =>
      cases tr with
      | none =>
        dsimp only [trV]
        refine wpAny_call ?_
        k_dflt cell_enter
        k_steps
        all_goals ((rename Fr _ _ _ _ => kF9); (rename News _ _ _ _ => kN9); exact hret _ _ _ kF9 (news_sub kN9 (by intro p hp; (repeat (first | exact hp | refine List.Mem.tail _ ?_)))))
      | some t =>
        dsimp only [trV]
        refine wpAny_call ?_
        k_dflt cell_enter
        k_steps
        all_goals ((rename Fr _ _ _ _ => kF9); (rename News _ _ _ _ => kN9); refine q_str ?_ (hret _ _ _ kF9 kN9); simp [gmod, *])
  · cases tr with
    | none =>
      dsimp only [trV]
      refine wpAny_call ?_
      k_dflt cell_enter
      k_steps
      all_goals ((rename Fr _ _ _ _ => kF9); (rename News _ _ _ _ => kN9); exact hret _ _ _ kF9 kN9)
    | some t =>
      dsimp only [trV]
      refine wpAny_call ?_
      k_dflt cell_enter
      k_steps
      all_goals ((rename Fr _ _ _ _ => kF9); (rename News _ _ _ _ => kN9); refine q_str ?_ (hret _ _ _ kF9 kN9); simp [gmod, *])
end Guess
section Lmod
theorem ln_Lmod_0 : True := by
  k_with_none
  w_top off
  trivial
theorem my_getItem {prog : Program} {w : World} {A : Around} {E : Value → Shared → Prop} {s : Shared} {h₀ : Heap} {L d : Addr} {news : Led} {o : Obj} {kvs : List (Int × Value)} {k : Int} {t : Tok} {v : Value} {Q : Value → Shared → Prop} (N : News h₀ L s.heap news) (hp : (d, o) ∈ news) (hd : o.IsDictOf (intKind prog w) kvs) (hl : valueAt kvs k = some v) (h : Q v { s with toks := s.toks + 1 }) :
    wpAny (model prog w) A (getItem (.ref d) (.int k t)) Q E s := wpAny_getItem_of (intKind_is _ _ _ _) (kda_dict N hp hd).mapOf hl h
theorem ln_Lmod_1 : True := by
  k_with "ite" => (k_here; first | (refine ite_neg (by decide) ?_) | (refine ite_pos (by decide) ?_))
  k_with "getItem ref int" => (k_here; (with_reducible show wpAny _ _ (getItem (Value.ref _) (Value.int _ _)) _ _ _); k_dflt (refine' my_getItem ?Nz9 ?pz9 ?dz9 ?lz9 ?_; (case Nz9 => k_asm); (case pz9 => k_mem); (case dz9 => assumption); (case lz9 => rfl)))
  trivial
set_option maxHeartbeats 4000000 in
theorem lmod_c (w : World) : ∀ {loose : List Str} {mean : ExcName → Option Value} {mg mb : Str → Option Value} {dp un : Nat} {gd : Option (List Code)} {cn : Str} {cs : Scope} {a : Addr} {ccd : Value} {cl : List (Str × Addr)} {outer : List Env} {A₀ : Around} {base h₀ : Heap} {L : Addr} {m : Str → Option Value} {s : Shared} {Q E : Value → Shared → Prop} {many : Nat} {jf : Bool} {tr : Option Int} {tm tt : Tok} {news : Led},
    Below A₀ base outer h₀ → Fr h₀ L s.heap m → (Mine.kv.heap_1_1 w.params).In h₀ → News h₀ L s.heap (news) → Top Mine.kv.view_1_2 loose mean mg mb h₀ → cs.kind = .function → 1 ≤ many → many ≤ 4 → (tr = none ∨ tr = some 0 ∨ tr = some 1 ∨ tr = some 2) → dp + 10 < recursionLimit → un + 100 < cLine →
    (∀ (t : Tok) (h' : Heap) (tk' : Nat), Fr h₀ L h' m → News h₀ L h' news → Q (.str (gmod many jf tr) t) { s with heap := h', toks := tk' }) →
    wpAny (model PySem.Challenge.rw_ok0144_01.row.prog w) (ktrTop dp un gd cn cs L a ccd cl outer) (call (.ref 352) [.int (many : Int) tm, .bool jf, trV tr tt]) Q E s := by
  k_fill
  intro loose mean mg mb dp un gd cn cs a ccd cl outer A₀ base h₀ L m s Q E many jf tr tm tt news B F X N T hk h1 h4 htr hd hu hret
  have fin : ∀ (k : Str) (t : Tok) (h' : Heap) (tk' : Nat) (l : Led), k = gmod many jf tr → Fr h₀ L h' m → News h₀ L h' (l ++ news) → Q (.str k t) { s with heap := h', toks := tk' } := fun k t h' tk' l e F' N' => e ▸ hret t h' tk' F' (news_sub N' fun p hp => List.mem_append_right _ hp)
  rcases many4 h1 h4 with rfl | rfl | rfl | rfl <;> clear h1 h4 <;> rcases tr with _ | t9
  all_goals (try cases jf)
  all_goals dsimp only [trV]
  all_goals (refine wpAny_call ?_; k_dflt cell_enter)
  all_goals (k_steps)
  all_goals ((rename Fr _ _ _ _ => kF9); (rename News _ _ _ _ => kN9))
  all_goals (first | exact fin _ _ _ _ [] (by simp [gmod, *]) kF9 kN9 | exact fin _ _ _ _ [_] (by simp [gmod, *]) kF9 kN9 | exact fin _ _ _ _ [_, _] (by simp [gmod, *]) kF9 kN9)
end Lmod
section News
theorem ln_News_0 : True := by
  k_with_none
  w_top off
  trivial
theorem text_in : ∀ {vs : List Value}, allTexts vs = true → ∀ {k : Str}, k ∈ textsOf vs → ∃ t, Value.str k t ∈ vs
  | .str y u :: r, h, k, hk => by
    rcases List.mem_cons.mp hk with rfl | hk
    · exact ⟨u, .head _⟩
    · obtain ⟨t, ht⟩ := text_in (vs := r) h hk
      exact ⟨t, .tail _ ht⟩
theorem kind_in {prog : Program} {w : World} {A : Around} {E : Value → Shared → Prop} {s : Shared} {h₀ : Heap} {L a : Addr} {m : Str → Option Value} {K : Frag} {l : List Value} {dd : Option Addr} {n : Nat} {sl : Array (Option Value)} {k : Str} {t : Tok} {Q : Value → Shared → Prop} (F : Fr h₀ L s.heap m) (X₀ : K.In h₀) (hl : K.lookup a = some ⟨.type "tuple", dd, .seq l.toArray n, sl⟩)
    (ha : allTexts l = true) (hk : k ∈ textsOf l) (h : Q (.bool false) s) : wpAny (model prog w) A (compareOp .NotIn (.str k t) (.ref a)) Q E s := by
  refine PySem.SeqAt.notIn_tupleAt (items := l.toArray) (fun y => match y with | .str x _ => x == k | _ => false) ⟨_, X₀.keeps F.keep a _ hl, rfl, n, rfl⟩ (fun y hy => ?_) ?_
  · obtain ⟨x, u, rfl, _⟩ := texts_mem ha (by simpa using hy)
    exact PySem.SeqAt.EqAt.str_str x u k t
  · obtain ⟨u, hu⟩ := text_in ha hk
    have e : (l.toArray.any fun y => match y with | .str x _ => x == k | _ => false) = true := by
      rw [List.any_toArray, List.any_eq_true]
      exact ⟨_, hu, beq_self_eq_true k⟩
    rw [e]
    exact h
theorem ln_News_1 : True := by
  k_with "compareOp NotIn str ref" => (k_here; k_dflt (refine' kind_in ?Fz9 ?Xz9 ?lz9 ?az9 ?kz9 ?_; (case Fz9 => k_asm); (case Xz9 => k_asm); (case lz9 => k_is); (case az9 => rfl); (case kz9 => assumption)))
  k_with "ite" => (k_here; first | (refine ite_neg (by decide) ?_) | (refine ite_pos (by decide) ?_))
  trivial
/-- what Settings keeps -/
def SetD (od : Obj) (kind : Str) (iv n : Int) (md : Str) : Prop := ∃ (H1 H2 H3 H4 H5 H6 H7 H8 : Int) (t1 t2 t3 t4 t5 t6 t7 t8 u1 u2 u4 u7 u8 : Tok) (nn : Nat), od = dictOf [⟨H1, .str (Str.ofString "kind") t1, .str kind u1⟩, ⟨H2, .str (Str.ofString "quality") t2, .int 75 u2⟩, ⟨H3, .str (Str.ofString "sampling") t3, .none⟩, ⟨H4, .str (Str.ofString "interval") t4, .int iv u4⟩, ⟨H5, .str (Str.ofString "optimise") t5, .bool true⟩, ⟨H6, .str (Str.ofString "scans") t6, .none⟩, ⟨H7, .str (Str.ofString "n") t7, .int n u7⟩, ⟨H8, .str (Str.ofString "model") t8, .str md u8⟩] nn
set_option maxHeartbeats 2000000 in
theorem set_c (w : World) : ∀ {loose : List Str} {mean : ExcName → Option Value} {mg mb : Str → Option Value} {dp un : Nat} {gd : Option (List Code)} {cn : Str} {cs : Scope} {a : Addr} {ccd : Value} {cl : List (Str × Addr)} {outer : List Env} {A₀ : Around} {base h₀ : Heap} {L : Addr} {m : Str → Option Value} {s : Shared} {Q E : Value → Shared → Prop} {kind md : Str} {iv n : Int} {t1 t2 t4 t7 t8 : Tok} {news : Led},
    Below A₀ base outer h₀ → Fr h₀ L s.heap m → (Mine.kv.heap_1_1 w.params).In h₀ → News h₀ L s.heap (news) → Top Mine.kv.view_1_2 loose mean mg mb h₀ → cs.kind = .function → kind ∈ kinds → 0 ≤ iv → iv < 65536 → dp + 10 < recursionLimit → un + 100 < cLine →
    (∀ (x dx : Addr) (od : Obj) (h' : Heap) (tk' : Nat), SetD od kind iv n md → Fr h₀ L h' m → News h₀ L h' ((x, instObj 275 dx) :: (dx, od) :: news) → AllLt dx news → @LT.lt Nat _ dx x → Q (.ref x) { s with heap := h', toks := tk' }) →
    wpAny (model PySem.Challenge.rw_ok0144_01.row.prog w) (ktrTop dp un gd cn cs L a ccd cl outer) (call (.ref 275) [.str kind t1, .int 75 t2, .none, .int iv t4, .bool true, .none, .int n t7, .str md t8]) Q E s := by
  k_fill
  intro loose mean mg mb dp un gd cn cs a ccd cl outer A₀ base h₀ L m s Q E kind md iv n t1 t2 t4 t7 t8 news B F X N T hk hkd hi0 hi1 hd hu hret
  k_dflt (refine' call_cls ?k1 ?k2 ?k3 ?k4 ?k5 ?k6 ?_; (case k1 => k_asm); (case k2 => k_asm); (case k3 => k_asm); (case k4 => k_is); (case k5 => k_is); (case k6 => k_is); k_whole; intro x' d' h' F' N' l1 l2; (try k_lt l1); (try k_lt2 l2); (try k_sweep); (refine' code_def ?k1 ?k2 ?k3 ?k4 ?k5 ?kA ?kF ?kK ?k6 ?k7 ?k8 ?k9 ?kB ?_ ?c2 ?c3 ?c4 ?c5; (case kA => exact rfl); (case kF => exact rfl); (case kK => assumption); (case k1 => k_asm); (case k2 => k_asm); (case k3 => k_asm); (case k4 => k_asm); (case k5 => k_asm); (case k6 => k_is); (case k7 => k_is); (case k8 => ktr_room); (case k9 => exact binds_K (by k_in) rfl (by k_is) rfl rfl rfl); (case c5 => decide); (case kB => exact locs rfl); (case c2 => exact rfl); (case c3 => exact rfl); (case c4 => exact rfl); k_whole; intro g' L' h' FG' F' N' B' X' T'; (try dsimp only); (try k_lift B'); (try k_fold)))
  k_steps
  (rename Fr _ _ _ _ => kF9); (rename News _ _ _ _ => kN9)
  exact hret _ _ _ _ _ ⟨_, _, _, _, _, _, _, _, _, _, _, _, _, _, _, _, _, _, _, _, _, _, rfl⟩ kF9 kN9 (allLt_of l1) l2
/-- what Parsed keeps -/
def ParD (od : Obj) (n : Int) (tb q al sc : Addr) : Prop := ∃ (H1 H2 H3 H4 H5 H6 H7 H8 : Int) (t1 t2 t3 t4 t5 t6 t7 t8 u1 u8 : Tok), od = dictOf [⟨H1, .str (Str.ofString "n") t1, .int n u1⟩, ⟨H2, .str (Str.ofString "frame") t2, .none⟩, ⟨H3, .str (Str.ofString "grid") t3, .none⟩, ⟨H4, .str (Str.ofString "tables") t4, .ref tb⟩, ⟨H5, .str (Str.ofString "quant") t5, .ref q⟩, ⟨H6, .str (Str.ofString "apps") t6, .ref al⟩, ⟨H7, .str (Str.ofString "scans") t7, .ref sc⟩, ⟨H8, .str (Str.ofString "interval") t8, .int 0 u8⟩] 8
set_option maxHeartbeats 2000000 in
theorem par_c (w : World) : ∀ {loose : List Str} {mean : ExcName → Option Value} {mg mb : Str → Option Value} {dp un : Nat} {gd : Option (List Code)} {cn : Str} {cs : Scope} {a : Addr} {ccd : Value} {cl : List (Str × Addr)} {outer : List Env} {A₀ : Around} {base h₀ : Heap} {L : Addr} {m : Str → Option Value} {s : Shared} {Q E : Value → Shared → Prop} {n : Int} {t1 : Tok} {news : Led},
    Below A₀ base outer h₀ → Fr h₀ L s.heap m → (Mine.kv.heap_1_1 w.params).In h₀ → News h₀ L s.heap (news) → Top Mine.kv.view_1_2 loose mean mg mb h₀ → cs.kind = .function → dp + 10 < recursionLimit → un + 100 < cLine →
    (∀ (x dx tb q al sc : Addr) (od : Obj) (h' : Heap) (tk' : Nat), ParD od n tb q al sc → Fr h₀ L h' m → News h₀ L h' ((x, instObj 247 dx) :: (dx, od) :: (al, listOf #[] 0) :: news) → AllLt dx news → @LT.lt Nat _ dx x → @LT.lt Nat _ x al → Q (.ref x) { s with heap := h', toks := tk' }) →
    wpAny (model PySem.Challenge.rw_ok0144_01.row.prog w) (ktrTop dp un gd cn cs L a ccd cl outer) (call (.ref 247) [.int n t1]) Q E s := by
  k_fill
  intro loose mean mg mb dp un gd cn cs a ccd cl outer A₀ base h₀ L m s Q E n t1 news B F X N T hk hd hu hret
  k_dflt (refine' call_cls ?k1 ?k2 ?k3 ?k4 ?k5 ?k6 ?_; (case k1 => k_asm); (case k2 => k_asm); (case k3 => k_asm); (case k4 => k_is); (case k5 => k_is); (case k6 => k_is); k_whole; intro x' d' h' F' N' l1 l2; (try k_lt l1); (try k_lt2 l2); (try k_sweep); cell_enter)
  k_steps
  (rename Fr _ _ _ _ => kF9); (rename News _ _ _ _ => kN9)
  exact hret _ _ _ _ _ _ _ _ _ ⟨_, _, _, _, _, _, _, _, _, _, _, _, _, _, _, _, _, _, rfl⟩ kF9 (news_sub kN9 (List.forall_mem_cons.mpr ⟨by k_mem, List.forall_mem_cons.mpr ⟨by k_mem, List.forall_mem_cons.mpr ⟨by k_mem, by (intro p hp; (repeat (first | exact hp | refine List.Mem.tail _ ?_)))⟩⟩⟩)) (allLt_of l1) l2 (by omega)
end News
section App
theorem ln_App_0 : True := by
  k_with_none
  w_top off
  trivial
open PyProof.Rows.LCg
section
variable {prog : Program} {w : World} {A : Around} {E : Value → Shared → Prop} {s : Shared} {h₀ : Heap} {L : Addr} {m : Str → Option Value} {env : Env}
theorem ids_src {elt : Expr} {x : Str} {scope : Scope} {cl : List (Str × Addr)} {l : Addr} {nl : Nat} {all Z : Led} {vs : List Value} {cps : List CDat} {yy : Str} {Q : Flow → Shared → Prop}
    (hh : A.handled = none) (F : Fr h₀ L s.heap m) (N : News h₀ L s.heap all) (hm : (l, listOf vs.toArray nl) ∈ all) (hZ : Zip (CompAt Z) vs cps) (sub : ∀ p ∈ Z, p ∈ all) (h4 : cps.length ≤ 4)
    (turn : ∀ (i : Nat) (xa d : Addr) (H1 H2 H3 H4 : Int) (t1 t2 t3 t4 u1 u2 u3 u4 : Tok) (n : Nat) I oI C oC D m₂ ys nw bs h tk (E' : Value → Shared → Prop), NsObj oC m₂ → m₂ x = some (.ref xa) → (xa, instObj 45 d) ∈ nw → (d, dictOf [⟨H1, .str (Str.ofString "ident") t1, .int (cps.getD i dflt).i u1⟩, ⟨H2, .str (Str.ofString "across") t2, .int (cps.getD i dflt).a u2⟩, ⟨H3, .str (Str.ofString "down") t3, .int (cps.getD i dflt).d u3⟩, ⟨H4, .str (Str.ofString "quant") t4, .int (cps.getD i dflt).q u4⟩] n) ∈ nw → Fr h₀ L h m → News h₀ L h ((I, oI) :: (C, oC) :: (D, lst ys) :: nw) → ((@Ne Nat I C) ∧ (@Ne Nat I D) ∧ (@Ne Nat C D)) →
      wpAny (model prog w) A (eval elt (compEnvC scope cl C env)) (GrowEnd h₀ L m { s with heap := h, toks := tk } I oI C oC D (lst ys) nw bs (fun _ y => ∃ t, y = .int (cps.getD i dflt).i t)) E' { s with heap := h, toks := tk })
    (fin : ∀ (D : Addr) (ys : List Value) (h : Heap) (tk : Nat), IntsAre ys (cps.map (·.i)) → (ys.toArray.size : Int) = (cps.length : Int) → Fr h₀ L h (fun z => if z = yy then some (.ref D) else m z) → News h₀ L h ((D, listOf ys.toArray ys.length) :: all) → (∀ p ∈ all, p.1 ≠ D) → Q .next { s with heap := h, toks := tk }) :
    CompSrc prog w A h₀ L m env elt x scope cl (fun s₂ => FinA h₀ L m s₂ yy Q) (.ref l) s := by
  refine CompSrc.ledger hh F N hm (by rw [List.size_toArray, hZ.len, sizeLine_eq]; omega) fun g => ?_
  refine comp_grow [] all (fun _ i y => ∃ t, y = .int (cps.getD i dflt).i t) (fun _ _ _ _ h => h) (fun W => .inr ⟨_, List.mem_append_right _ hm, rfl, _, rfl⟩) (fun i v I oI C oC D m₂ ys nw bs h tk E' hi hP hC hx s1 s2 s3 F N off ne => ?_) (fun ys W fr g D h tk F N o1 => ?_)
  · have hi' : i < cps.length := by rw [← hZ.len]; simpa using hi
    obtain ⟨v', e, xa, d, od, rfl, a, b, c⟩ := hZ.at i hi'
    have ev : v = .ref xa := by
      have h1 : vs.toArray[i]? = some v := hP
      rw [List.getElem?_toArray, e] at h1
      exact (Option.some.inj h1).symm
    subst ev
    have hg : cps.getD i dflt = cps[i] := by rw [List.getD_eq_getElem?_getD, List.getElem?_eq_getElem hi']; rfl
    obtain ⟨H1, H2, H3, H4, t1, t2, t3, t4, u1, u2, u3, u4, n, rfl⟩ := c
    have T := turn i xa d H1 H2 H3 H4 t1 t2 t3 t4 u1 u2 u3 u4 n I oI C oC D m₂ ys nw bs h tk E' hC hx (s1 _ (sub _ a))
    rw [hg] at T ⊢
    exact T (s1 _ (sub _ b)) F N ne
  · have hl : ys.length = cps.length := by rw [g.1, List.size_toArray, hZ.len]
    refine fin D ys h tk ?_ (by rw [List.size_toArray, hl]) F (fun p hp => ?_) (fun p hp => off1_at o1 (o := p.2) (List.mem_append_right _ hp))
    · have key : ∀ (ys : List Value) (cs : List CDat), ys.length = cs.length → (∀ j, j < cs.length → ∃ v, ys[j]? = some v ∧ ∃ t, v = .int (cs.getD j dflt).i t) → IntsAre ys (cs.map (·.i)) := by
        intro ys
        induction ys with
        | nil => intro cs h _; cases cs with
          | nil => exact .nil
          | cons _ _ => cases h
        | cons y r ih => intro cs h k; cases cs with
          | nil => cases h
          | cons c cs =>
            obtain ⟨v, e, t, rfl⟩ := k 0 (Nat.zero_lt_succ _)
            have e' : y = .int c.i t := by simpa using e
            subst e'
            exact .cons _ t (ih cs (Nat.succ.inj h) fun j hj => k (j + 1) (Nat.succ_lt_succ hj))
      refine key ys cps hl fun j hj => ?_
      exact g.2 j (by rw [List.size_toArray, hZ.len]; exact hj)
    · rcases List.mem_cons.mp hp with rfl | hp
      · exact N _ (.head _)
      · exact N p (.tail _ (List.mem_append_right _ hp))
end
theorem ids_of {cps : List CDat} (h : idents cps) : cps.map (·.i) = ids4.take cps.length := h
theorem guess_u {w : World} {loose : List Str} {mean : ExcName → Option Value} {mg mb : Str → Option Value} {dp un : Nat} {gd : Option (List Code)} {cn : Str} {cs : Scope} {a : Addr} {ccd : Value} {cl : List (Str × Addr)} {outer : List Env} {A₀ : Around} {base h₀ : Heap} {L : Addr} {m : Str → Option Value} {s : Shared} {Q E : Value → Shared → Prop} {jf : Bool} {tr : Option Int} {v : Value} {il : Addr} {vs : List Value} {n : Nat} {tm tt : Tok} {cps : List CDat} {news : Led} (B : Below A₀ base outer h₀) (F : Fr h₀ L s.heap m) (X : (Mine.kv.heap_1_1 w.params).In h₀) (N : News h₀ L s.heap ((il, listOf vs.toArray n) :: news)) (T : Top Mine.kv.view_1_2 loose mean mg mb h₀) (hk : cs.kind = .function)
    (hv : v = trV tr tt) (hid : idents cps) (hI : IntsAre vs (cps.map (·.i))) (h1 : 1 ≤ cps.length) (h4 : cps.length ≤ 4) (hd : dp + 10 < recursionLimit) (hu : un + 100 < cLine)
    (ret : ∀ (t : Tok) (h' : Heap) (tk' : Nat), Fr h₀ L h' m → News h₀ L h' news → Q (.str (gmod cps.length jf tr) t) { s with heap := h', toks := tk' }) :
    wpAny (model PySem.Challenge.rw_ok0144_01.row.prog w) (ktrTop dp un gd cn cs L a ccd cl outer) (call (.ref 173) [.int (cps.length : Int) tm, .ref il, .bool jf, v]) Q E s := by
  subst hv
  exact guess_c w B F X N T hk h1 h4 (by rw [← ids_of hid]; exact hI) hd hu fun t h' tk' F' N' => ret t h' tk' F' fun p hp => N' p (.tail _ hp)
theorem lmod_u {w : World} {loose : List Str} {mean : ExcName → Option Value} {mg mb : Str → Option Value} {dp un : Nat} {gd : Option (List Code)} {cn : Str} {cs : Scope} {a : Addr} {ccd : Value} {cl : List (Str × Addr)} {outer : List Env} {A₀ : Around} {base h₀ : Heap} {L : Addr} {m : Str → Option Value} {s : Shared} {Q E : Value → Shared → Prop} {jf : Bool} {tr : Option Int} {v : Value} {tm tt : Tok} {cps : List CDat} {news : Led} (B : Below A₀ base outer h₀) (F : Fr h₀ L s.heap m) (X : (Mine.kv.heap_1_1 w.params).In h₀) (N : News h₀ L s.heap news) (T : Top Mine.kv.view_1_2 loose mean mg mb h₀) (hk : cs.kind = .function)
    (hv : v = trV tr tt) (htr : tr = none ∨ tr = some 0 ∨ tr = some 1 ∨ tr = some 2) (h1 : 1 ≤ cps.length) (h4 : cps.length ≤ 4) (hd : dp + 10 < recursionLimit) (hu : un + 100 < cLine)
    (ret : ∀ (t : Tok) (h' : Heap) (tk' : Nat), Fr h₀ L h' m → News h₀ L h' news → Q (.str (gmod cps.length jf tr) t) { s with heap := h', toks := tk' }) :
    wpAny (model PySem.Challenge.rw_ok0144_01.row.prog w) (ktrTop dp un gd cn cs L a ccd cl outer) (call (.ref 352) [.int (cps.length : Int) tm, .bool jf, v]) Q E s := by
  subst hv
  exact lmod_c w B F X N T hk h1 h4 htr hd hu ret
theorem trv_none : Value.none = trV none 0 := rfl
theorem trv_some (t : Int) (u : Tok) : Value.int t u = trV (some t) u := rfl
theorem ln_App_1 : True := by
  k_with "trv" => first | exact trv_none | exact trv_some _ _
  k_with "call ref" => (k_here; (with_reducible show wpAny _ _ (call (Value.ref 173) [Value.int _ _, Value.ref _, _, _]) _ _ _); k_dflt (refine' guess_u ?Bz9 ?Fz9 ?Xz9 ?Nz9 ?Tz9 ?Kz9 ?vz9 ?idz9 ?Iz9 ?h1z9 ?h4z9 ?dz9 ?uz9 ?_; (case Bz9 => k_asm); (case Fz9 => k_asm); (case Xz9 => k_asm); (case Nz9 => k_asm); (case Tz9 => k_asm); (case Kz9 => first | exact rfl | assumption); (case vz9 => walk_at "trv"); (case idz9 => assumption); (case Iz9 => assumption); (case h1z9 => assumption); (case h4z9 => assumption); (case dz9 => ktr_room); (case uz9 => ktr_units)); intro t' h' tk' F' N'; (try k_sweep); (try dsimp only); (try k_fold))
  trivial
/-- a segment's dict -/
def PieceD (od : Obj) (code : Int) (pl : Value) : Prop := ∃ (H1 H2 H3 : Int) (t1 t2 t3 u1 : Tok) (dv : Value) (n : Nat), od = dictOf [⟨H1, .str (Str.ofString "code") t1, .int code u1⟩, ⟨H2, .str (Str.ofString "payload") t2, pl⟩, ⟨H3, .str (Str.ofString "data") t3, dv⟩] n
theorem PieceD.nc {od : Obj} {c : Int} {v : Value} (h : PieceD od c v) : NC od := by
  obtain ⟨_, _, _, _, _, _, _, _, _, rfl⟩ := h
  exact nc_dict
/-- the segments of a file that this law lays: none, JFIF's, Adobe's with a transform -/
inductive AppsAt (N : Led) : List Value → Bool → Option Int → Prop
  | none : AppsAt N [] false none
  | jfif {pc d : Addr} {od : Obj} {b : Tok} : (pc, instObj 191 d) ∈ N → (d, od) ∈ N → PieceD od 224 (.bytes #[74, 70, 73, 70, 0, 1, 2] b) → AppsAt N [.ref pc] true none
  | adobe0 {pc d : Addr} {od : Obj} {b : Tok} : (pc, instObj 191 d) ∈ N → (d, od) ∈ N → PieceD od 238 (.bytes #[65, 100, 111, 98, 101, 0, 100, 0, 0, 0, 0, 0] b) → AppsAt N [.ref pc] false (some 0)
  | adobe1 {pc d : Addr} {od : Obj} {b : Tok} : (pc, instObj 191 d) ∈ N → (d, od) ∈ N → PieceD od 238 (.bytes #[65, 100, 111, 98, 101, 0, 100, 0, 0, 0, 0, 1] b) → AppsAt N [.ref pc] false (some 1)
  | adobe2 {pc d : Addr} {od : Obj} {b : Tok} : (pc, instObj 191 d) ∈ N → (d, od) ∈ N → PieceD od 238 (.bytes #[65, 100, 111, 98, 101, 0, 100, 0, 0, 0, 0, 2] b) → AppsAt N [.ref pc] false (some 2)
theorem AppsAt.mono {N N' : Led} (s : ∀ p ∈ N, p ∈ N') {its : List Value} {jf : Bool} {tr : Option Int} (h : AppsAt N its jf tr) : AppsAt N' its jf tr := by
  cases h with
  | none => exact .none
  | jfif a b c => exact .jfif (s _ a) (s _ b) c
  | adobe0 a b c => exact .adobe0 (s _ a) (s _ b) c
  | adobe1 a b c => exact .adobe1 (s _ a) (s _ b) c
  | adobe2 a b c => exact .adobe2 (s _ a) (s _ b) c
theorem AppsAt.tr {N : Led} {its : List Value} {jf : Bool} {tr : Option Int} (h : AppsAt N its jf tr) : tr = Option.none ∨ tr = some 0 ∨ tr = some 1 ∨ tr = some 2 := by
  cases h <;> simp
/-- what was parsed, its fields set -/
def PrsD (od : Obj) (n iv : Int) (x al : Addr) : Prop := ∃ (H1 H2 H3 H4 H5 H6 H7 H8 : Int) (t1 t2 t3 t4 t5 t6 t7 t8 u1 u8 : Tok) (v3 v4 v5 v7 : Value) (nn : Nat), od = dictOf [⟨H1, .str (Str.ofString "n") t1, .int n u1⟩, ⟨H2, .str (Str.ofString "frame") t2, .ref x⟩, ⟨H3, .str (Str.ofString "grid") t3, v3⟩, ⟨H4, .str (Str.ofString "tables") t4, v4⟩, ⟨H5, .str (Str.ofString "quant") t5, v5⟩, ⟨H6, .str (Str.ofString "apps") t6, .ref al⟩, ⟨H7, .str (Str.ofString "scans") t7, v7⟩, ⟨H8, .str (Str.ofString "interval") t8, .int iv u8⟩] nn
local macro_rules | `(tactic| k_mem) => `(tactic| (refine memOf ?_; ktr_member))
theorem ln_App_2 : True := by
  k_with "ite" => (k_here; first | (refine ite_neg (by decide) ?_) | (refine ite_pos (by decide) ?_))
  k_with "k_offL" => first | (refine' Del.head ?az9; (case az9 => k_all)) | (refine' Del.tail ?az9 ?bz9; (case az9 => k_ne); (case bz9 => walk_at "k_offL"))
  k_with "pyIter ref" => ((with_reducible show wpAny _ _ (pyIter (Value.ref _)) (fun it s₂ => LoopAtV _ _ _ _ _ _ _ _ _ it s₂) _ _); (rename Fr _ _ _ _ => lF'); (rename News _ _ _ _ => lN'); (with_unfolding_all refine iter_listUnr (by rfl) lF' lN' (by k_mem) (by rfl) (by rfl) ?_); clear lF'; intro i' l1; (try k_lt l1))
  k_with "UnrEnd" => (k_here; k_dflt (refine' unr_del ?Fz9 ?Nz9 ?Dz9 ⟨?mmz9, ?_⟩; (case Fz9 => k_asm); (case Nz9 => k_asm); (case Dz9 => walk_at "k_offL"); (case mmz9 => k_mem)))
  k_with "eval ListComp" => (k_here; k_dflt (refine LCg.ListComp_U (F₀ := by k_asm) (by with_unfolding_all rfl) (by decide) (by rfl) (by decide) (by rfl) ?_))
  k_with "CompSrc" => (k_here; (rename Zip _ _ _ => hZ9r8); k_dflt (refine' ids_src ?hhz9 ?Fz9 ?Nz9 ?mz9 hZ9r8 ?subz9 ?h4z9 ?_ ?_; (case hhz9 => exact rfl); (case Fz9 => k_asm); (case Nz9 => k_asm); (case mz9 => k_mem); (case subz9 => (intro p hp; (repeat (first | exact hp | refine List.Mem.tail _ ?_)))); (case h4z9 => assumption); ((intro i' xa' d' H1' H2' H3' H4' t1' t2' t3' t4' u1' u2' u3' u4' n' I' oI' C' oC' D' m' ys' nw' bs' h' tk' E' hC' hx' m1' m2' F' N' ne'; (try k_sweep))); rotate_left; ((intro D' ys' h' tk' hI' sz' F' N' ap'; (try k_sweep))); rotate_left))
  k_with "GrowEnd" => (k_here; (rename Fr _ _ _ _ => kF9r9); (rename News _ _ _ _ => kN9r9); k_dflt (exact grow_none kF9r9 kN9r9 ⟨_, rfl⟩))
  k_with "call builtin:len" => (k_here; (with_reducible show wpAny _ _ (call (Value.builtin "len") [Value.ref _]) _ _ _); k_dflt (refine' kun_lenL ?k1z9 ?k2z9 ?k3z9 ?_; (case k1z9 => exact News.isList (by k_asm) (by k_mem)); (case k2z9 => assumption); (case k3z9 => omega); k_whole))
  k_with "trv" => first | exact (rfl : Value.none = trV none 0) | exact (rfl : _ = trV (some 0) _) | exact (rfl : _ = trV (some 1) _) | exact (rfl : _ = trV (some 2) _)
  k_with "call ref" => (k_here; (with_reducible show wpAny _ _ (call (Value.ref 173) [Value.int _ _, Value.ref _, _, _]) _ _ _); k_dflt (refine' guess_u ?Bz9 ?Fz9 ?Xz9 ?Nz9 ?Tz9 ?Kz9 ?vz9 ?idz9 ?Iz9 ?h1z9 ?h4z9 ?dz9 ?uz9 ?_; (case Bz9 => k_asm); (case Fz9 => k_asm); (case Xz9 => k_asm); (case Nz9 => k_asm); (case Tz9 => k_asm); (case Kz9 => first | exact rfl | assumption); (case vz9 => walk_at "trv"); (case idz9 => assumption); (case Iz9 => assumption); (case h1z9 => assumption); (case h4z9 => assumption); (case dz9 => ktr_room); (case uz9 => ktr_units)); intro t' h' tk' F' N'; (try k_sweep); (try dsimp only); (try k_fold))
  trivial
set_option maxHeartbeats 4000000 in
theorem model_c (w : World) : ∀ {loose : List Str} {mean : ExcName → Option Value} {mg mb : Str → Option Value} {dp un : Nat} {gd : Option (List Code)} {cn : Str} {cs : Scope} {a : Addr} {ccd : Value} {cl : List (Str × Addr)} {outer : List Env} {A₀ : Around} {base h₀ : Heap} {L : Addr} {m : Str → Option Value} {s : Shared} {Q E : Value → Shared → Prop} {pr dr x dx lst al : Addr} {odr odx : Obj} {f : FDat} {cps : List CDat} {pn iv : Int} {vs its : List Value} {nl na : Nat} {jf : Bool} {tr : Option Int} {news : Led},
    Below A₀ base outer h₀ → Fr h₀ L s.heap m → (Mine.kv.heap_1_1 w.params).In h₀ → News h₀ L s.heap (news) → Top Mine.kv.view_1_2 loose mean mg mb h₀ → cs.kind = .function → (pr, instObj 247 dr) ∈ news → (dr, odr) ∈ news → PrsD odr pn iv x al → (al, listOf its.toArray na) ∈ news → AppsAt news its jf tr → (x, instObj 111 dx) ∈ news → (dx, odx) ∈ news → FrameD odx f.kind f.p f.h f.w lst f.n → (lst, listOf vs.toArray nl) ∈ news → (vs.toArray.size : Int) = (cps.length : Int) → Zip (CompAt news) vs cps → idents cps → 1 ≤ cps.length → cps.length ≤ 4 → dp + 20 < recursionLimit → un + 300 < cLine →
    (∀ (t : Tok) (h' : Heap) (tk' : Nat), Fr h₀ L h' m → News h₀ L h' news → Q (.str (gmod cps.length jf tr) t) { s with heap := h', toks := tk' }) →
    wpAny (model PySem.Challenge.rw_ok0144_01.row.prog w) (ktrTop dp un gd cn cs L a ccd cl outer) (call (.ref 256) [.ref pr]) Q E s := by
  k_fill
  intro loose mean mg mb dp un gd cn cs a ccd cl outer A₀ base h₀ L m s Q E pr dr x dx lst al odr odx f cps pn iv vs its nl na jf tr news B F X N T hk m1 m2 hP m3 hA m4 m5 hF m6 sz hZ hid h1 h4 hd hu hret
  obtain ⟨_, _, _, _, _, _, _, _, _, _, _, _, _, _, _, _, _, _, _, _, _, _, _, rfl⟩ := hP
  obtain ⟨_, _, _, _, _, _, _, _, _, _, _, _, _, _, _, _, _, _, rfl⟩ := hF
  have fin : ∀ (k : Str) (t : Tok) (h' : Heap) (tk' : Nat) (l : Led), k = gmod cps.length jf tr → Fr h₀ L h' m → News h₀ L h' l → (∀ p ∈ news, p ∈ l) → Q (.str k t) { s with heap := h', toks := tk' } := fun k t h' tk' l e F' N' sub => e ▸ hret t h' tk' F' (news_sub N' sub)
  rcases hA with _ | ⟨a7, a8, hp⟩ | ⟨a7, a8, hp⟩ | ⟨a7, a8, hp⟩ | ⟨a7, a8, hp⟩
  rotate_left
  all_goals (try (obtain ⟨_, _, _, _, _, _, _, _, _, rfl⟩ := hp))
  all_goals (refine wpAny_call ?_; k_dflt cell_enter)
  all_goals k_steps
  all_goals ((rename Fr _ _ _ _ => kF9); (rename News _ _ _ _ => kN9); exact fin _ _ _ _ _ rfl kF9 kN9 (by intro p hp; (repeat (first | exact hp | refine List.Mem.tail _ ?_))))
end App
section Own
theorem ln_Own_0 : True := by
  k_with_none
  w_top off
  trivial
theorem set_u {w : World} {loose : List Str} {mean : ExcName → Option Value} {mg mb : Str → Option Value} {dp un : Nat} {gd : Option (List Code)} {cn : Str} {cs : Scope} {a : Addr} {ccd : Value} {cl : List (Str × Addr)} {outer : List Env} {A₀ : Around} {base h₀ : Heap} {L : Addr} {m : Str → Option Value} {s : Shared} {Q E : Value → Shared → Prop} {kind md : Str} {iv n : Int} {a1 a2 a4 a7 a8 : Tok} {news : Led} (B : Below A₀ base outer h₀) (F : Fr h₀ L s.heap m) (X : (Mine.kv.heap_1_1 w.params).In h₀) (N : News h₀ L s.heap news) (T : Top Mine.kv.view_1_2 loose mean mg mb h₀) (hk : cs.kind = .function)
    (hkd : kind ∈ kinds) (h0 : 0 ≤ iv) (h1 : iv < 65536) (hd : dp + 10 < recursionLimit) (hu : un + 100 < cLine)
    (ret : ∀ (x dx : Addr) (H1 H2 H3 H4 H5 H6 H7 H8 : Int) (t1 t2 t3 t4 t5 t6 t7 t8 u1 u2 u4 u7 u8 : Tok) (nn : Nat) (h' : Heap) (tk' : Nat), Fr h₀ L h' m → News h₀ L h' ((x, instObj 275 dx) :: (dx, dictOf [⟨H1, .str (Str.ofString "kind") t1, .str kind u1⟩, ⟨H2, .str (Str.ofString "quality") t2, .int 75 u2⟩, ⟨H3, .str (Str.ofString "sampling") t3, .none⟩, ⟨H4, .str (Str.ofString "interval") t4, .int iv u4⟩, ⟨H5, .str (Str.ofString "optimise") t5, .bool true⟩, ⟨H6, .str (Str.ofString "scans") t6, .none⟩, ⟨H7, .str (Str.ofString "n") t7, .int n u7⟩, ⟨H8, .str (Str.ofString "model") t8, .str md u8⟩] nn) :: news) → AllLt dx news → @LT.lt Nat _ dx x → Q (.ref x) { s with heap := h', toks := tk' }) :
    wpAny (model PySem.Challenge.rw_ok0144_01.row.prog w) (ktrTop dp un gd cn cs L a ccd cl outer) (call (.ref 275) [.str kind a1, .int 75 a2, .none, .int iv a4, .bool true, .none, .int n a7, .str md a8]) Q E s :=
  set_c w B F X N T hk hkd h0 h1 hd hu fun x dx od h' tk' hS F' N' l1 l2 => by
    obtain ⟨H1, H2, H3, H4, H5, H6, H7, H8, t1, t2, t3, t4, t5, t6, t7, t8, u1, u2, u4, u7, u8, nn, rfl⟩ := hS
    exact ret x dx _ _ _ _ _ _ _ _ _ _ _ _ _ _ _ _ _ _ _ _ _ _ h' tk' F' N' l1 l2
local macro_rules | `(tactic| k_mem) => `(tactic| (refine memOf ?_; ktr_member))
theorem ln_Own_1 : True := by
  k_with "call ref" => (k_here; (with_reducible show wpAny _ _ (call (Value.ref 256) [Value.ref _]) _ _ _); (rename AppsAt _ _ _ _ => hA9r1); (rename Zip _ _ _ => hZ9r1); (rename PrsD _ _ _ _ _ => hP9r1); (rename FrameD _ _ _ _ _ _ _ => hF9r1); k_dflt (refine' model_c _ ?Bz9 ?Fz9 ?Xz9 ?Nz9 ?Tz9 ?Kz9 ?m1z9 ?m2z9 hP9r1 ?m3z9 hA9r1 ?m4z9 ?m5z9 hF9r1 ?m6z9 ?szz9 hZ9r1 ?idz9 ?h1z9 ?h4z9 ?dz9 ?uz9 ?_; (case Bz9 => k_asm); (case Fz9 => k_asm); (case Xz9 => k_asm); (case Nz9 => k_asm); (case Tz9 => k_asm); (case Kz9 => first | exact rfl | assumption); (case m1z9 => assumption); (case m2z9 => assumption); (case m3z9 => assumption); (case m4z9 => assumption); (case m5z9 => assumption); (case m6z9 => assumption); (case szz9 => assumption); (case idz9 => assumption); (case h1z9 => assumption); (case h4z9 => assumption); (case dz9 => ktr_room); (case uz9 => ktr_units)); intro t' h' tk' F' N'; (try k_sweep); (try dsimp only); (try k_fold))
  k_with "call ref" => (k_here; (with_reducible show wpAny _ _ (call (Value.ref 275) [Value.str _ _, _, _, _, _, _, _, _]) _ _ _); k_dflt (refine' set_u ?Bz9 ?Fz9 ?Xz9 ?Nz9 ?Tz9 ?Kz9 ?kdz9 ?h0z9 ?h1z9 ?dz9 ?uz9 ?_; (case Bz9 => k_asm); (case Fz9 => k_asm); (case Xz9 => k_asm); (case Nz9 => k_asm); (case Tz9 => k_asm); (case Kz9 => first | exact rfl | assumption); (case kdz9 => assumption); (case h0z9 => assumption); (case h1z9 => assumption); (case dz9 => ktr_room); (case uz9 => ktr_units)); intro x' dx' H1' H2' H3' H4' H5' H6' H7' H8' t1' t2' t3' t4' t5' t6' t7' t8' u1' u2' u4' u7' u8' nn' h' tk' F' N' l1 l2; (try k_lt2 l2); (try simp only [AllLt, and_true] at l1); (try k_sweep); (try dsimp only); (try k_fold))
  trivial
set_option maxHeartbeats 2000000 in
theorem own_c (w : World) : ∀ {loose : List Str} {mean : ExcName → Option Value} {mg mb : Str → Option Value} {dp un : Nat} {gd : Option (List Code)} {cn : Str} {cs : Scope} {a : Addr} {ccd : Value} {cl : List (Str × Addr)} {outer : List Env} {A₀ : Around} {base h₀ : Heap} {L : Addr} {m : Str → Option Value} {s : Shared} {Q E : Value → Shared → Prop} {pr dr x dx lst al : Addr} {odr odx : Obj} {f : FDat} {cps : List CDat} {pn iv : Int} {vs its : List Value} {nl na : Nat} {jf : Bool} {tr : Option Int} {news : Led},
    Below A₀ base outer h₀ → Fr h₀ L s.heap m → (Mine.kv.heap_1_1 w.params).In h₀ → News h₀ L s.heap (news) → Top Mine.kv.view_1_2 loose mean mg mb h₀ → cs.kind = .function → (pr, instObj 247 dr) ∈ news → (dr, odr) ∈ news → PrsD odr pn iv x al → (al, listOf its.toArray na) ∈ news → AppsAt news its jf tr → (x, instObj 111 dx) ∈ news → (dx, odx) ∈ news → FrameD odx f.kind f.p f.h f.w lst f.n → (lst, listOf vs.toArray nl) ∈ news → (vs.toArray.size : Int) = (cps.length : Int) → Zip (CompAt news) vs cps → idents cps → 1 ≤ cps.length → cps.length ≤ 4 → f.kind ∈ kinds → 0 ≤ iv → iv < 65536 → dp + 40 < recursionLimit → un + 500 < cLine →
    (∀ (z dz : Addr) (od : Obj) (h' : Heap) (tk' : Nat), SetD od f.kind iv pn (gmod cps.length jf tr) → Fr h₀ L h' m → News h₀ L h' ((z, instObj 275 dz) :: (dz, od) :: news) → Q (.ref z) { s with heap := h', toks := tk' }) →
    wpAny (model PySem.Challenge.rw_ok0144_01.row.prog w) (ktrTop dp un gd cn cs L a ccd cl outer) (call (.ref 300) [.ref pr]) Q E s := by
  k_fill
  intro loose mean mg mb dp un gd cn cs a ccd cl outer A₀ base h₀ L m s Q E pr dr x dx lst al odr odx f cps pn iv vs its nl na jf tr news B F X N T hk m1 m2 hP m3 hA m4 m5 hF m6 sz hZ hid h1 h4 hkd hi0 hi1 hd hu hret
  have hP0 := hP
  have hF0 := hF
  obtain ⟨_, _, _, _, _, _, _, _, _, _, _, _, _, _, _, _, _, _, _, _, _, _, _, rfl⟩ := hP
  obtain ⟨_, _, _, _, _, _, _, _, _, _, _, _, _, _, _, _, _, _, rfl⟩ := hF
  refine wpAny_call ?_
  k_dflt cell_enter
  k_steps
  (rename Fr _ _ _ _ => kF9); (rename News _ _ _ _ => kN9)
  exact hret _ _ _ _ _ ⟨_, _, _, _, _, _, _, _, _, _, _, _, _, _, _, _, _, _, _, _, _, _, rfl⟩ kF9 kN9
end Own
section Sett
theorem ln_Sett_0 : True := by
  k_with_none
  w_top off
  trivial
open PySem.SeqAt
theorem allLt_up {a b : Addr} : ∀ {l : Led}, AllLt a l → @LT.lt Nat _ a b → AllLt b l
  | [], _, _ => trivial
  | _ :: _, h, k => ⟨Nat.lt_trans h.1 k, allLt_up h.2 k⟩
theorem par_u {w : World} {loose : List Str} {mean : ExcName → Option Value} {mg mb : Str → Option Value} {dp un : Nat} {gd : Option (List Code)} {cn : Str} {cs : Scope} {a : Addr} {ccd : Value} {cl : List (Str × Addr)} {outer : List Env} {A₀ : Around} {base h₀ : Heap} {L : Addr} {m : Str → Option Value} {s : Shared} {Q E : Value → Shared → Prop} {n : Int} {a1 : Tok} {news : Led} (B : Below A₀ base outer h₀) (F : Fr h₀ L s.heap m) (X : (Mine.kv.heap_1_1 w.params).In h₀) (N : News h₀ L s.heap news) (T : Top Mine.kv.view_1_2 loose mean mg mb h₀) (hk : cs.kind = .function) (hd : dp + 10 < recursionLimit) (hu : un + 100 < cLine)
    (ret : ∀ (x dx tb q al sc : Addr) (H1 H2 H3 H4 H5 H6 H7 H8 : Int) (t1 t2 t3 t4 t5 t6 t7 t8 u1 u8 : Tok) (h' : Heap) (tk' : Nat), Fr h₀ L h' m → News h₀ L h' ((x, instObj 247 dx) :: (dx, dictOf [⟨H1, .str (Str.ofString "n") t1, .int n u1⟩, ⟨H2, .str (Str.ofString "frame") t2, .none⟩, ⟨H3, .str (Str.ofString "grid") t3, .none⟩, ⟨H4, .str (Str.ofString "tables") t4, .ref tb⟩, ⟨H5, .str (Str.ofString "quant") t5, .ref q⟩, ⟨H6, .str (Str.ofString "apps") t6, .ref al⟩, ⟨H7, .str (Str.ofString "scans") t7, .ref sc⟩, ⟨H8, .str (Str.ofString "interval") t8, .int 0 u8⟩] 8) :: (al, listOf #[] 0) :: news) → AllLt dx news → @LT.lt Nat _ dx x → @LT.lt Nat _ x al → AllLt al news → Q (.ref x) { s with heap := h', toks := tk' }) :
    wpAny (model PySem.Challenge.rw_ok0144_01.row.prog w) (ktrTop dp un gd cn cs L a ccd cl outer) (call (.ref 247) [.int n a1]) Q E s :=
  par_c w B F X N T hk hd hu fun x dx tb q al sc od h' tk' hP F' N' l1 l2 l3 => by
    obtain ⟨H1, H2, H3, H4, H5, H6, H7, H8, t1, t2, t3, t4, t5, t6, t7, t8, u1, u8, rfl⟩ := hP
    exact ret x dx tb q al sc _ _ _ _ _ _ _ _ _ _ _ _ _ _ _ _ _ _ h' tk' F' N' l1 l2 l3 (allLt_up l1 (Nat.lt_trans l2 l3))
theorem own_u {w : World} {loose : List Str} {mean : ExcName → Option Value} {mg mb : Str → Option Value} {dp un : Nat} {gd : Option (List Code)} {cn : Str} {cs : Scope} {a : Addr} {ccd : Value} {cl : List (Str × Addr)} {outer : List Env} {A₀ : Around} {base h₀ : Heap} {L : Addr} {m : Str → Option Value} {s : Shared} {Q E : Value → Shared → Prop} {pr dr x dx lst al : Addr} {odr odx : Obj} {f : FDat} {cps : List CDat} {pn iv : Int} {vs its : List Value} {nl na : Nat} {jf : Bool} {tr : Option Int} {news : Led} (B : Below A₀ base outer h₀) (F : Fr h₀ L s.heap m) (X : (Mine.kv.heap_1_1 w.params).In h₀) (N : News h₀ L s.heap news) (T : Top Mine.kv.view_1_2 loose mean mg mb h₀) (hk : cs.kind = .function)
    (m1 : (pr, instObj 247 dr) ∈ news) (m2 : (dr, odr) ∈ news) (hP : PrsD odr pn iv x al) (m3 : (al, listOf its.toArray na) ∈ news) (hA : AppsAt news its jf tr) (m4 : (x, instObj 111 dx) ∈ news) (m5 : (dx, odx) ∈ news) (hF : FrameD odx f.kind f.p f.h f.w lst f.n) (m6 : (lst, listOf vs.toArray nl) ∈ news) (sz : (vs.toArray.size : Int) = (cps.length : Int)) (hZ : Zip (CompAt news) vs cps) (hid : idents cps) (h1 : 1 ≤ cps.length) (h4 : cps.length ≤ 4) (hkd : f.kind ∈ kinds) (hi0 : 0 ≤ iv) (hi1 : iv < 65536) (hd : dp + 40 < recursionLimit) (hu : un + 500 < cLine)
    (ret : ∀ (z dz : Addr) (H1 H2 H3 H4 H5 H6 H7 H8 : Int) (t1 t2 t3 t4 t5 t6 t7 t8 u1 u2 u4 u7 u8 : Tok) (nn : Nat) (h' : Heap) (tk' : Nat), Fr h₀ L h' m → News h₀ L h' ((z, instObj 275 dz) :: (dz, dictOf [⟨H1, .str (Str.ofString "kind") t1, .str f.kind u1⟩, ⟨H2, .str (Str.ofString "quality") t2, .int 75 u2⟩, ⟨H3, .str (Str.ofString "sampling") t3, .none⟩, ⟨H4, .str (Str.ofString "interval") t4, .int iv u4⟩, ⟨H5, .str (Str.ofString "optimise") t5, .bool true⟩, ⟨H6, .str (Str.ofString "scans") t6, .none⟩, ⟨H7, .str (Str.ofString "n") t7, .int pn u7⟩, ⟨H8, .str (Str.ofString "model") t8, .str (gmod cps.length jf tr) u8⟩] nn) :: news) → Q (.ref z) { s with heap := h', toks := tk' }) :
    wpAny (model PySem.Challenge.rw_ok0144_01.row.prog w) (ktrTop dp un gd cn cs L a ccd cl outer) (call (.ref 300) [.ref pr]) Q E s :=
  own_c w B F X N T hk m1 m2 hP m3 hA m4 m5 hF m6 sz hZ hid h1 h4 hkd hi0 hi1 hd hu fun z dz od h' tk' hS F' N' => by
    obtain ⟨H1, H2, H3, H4, H5, H6, H7, H8, t1, t2, t3, t4, t5, t6, t7, t8, u1, u2, u4, u7, u8, nn, rfl⟩ := hS
    exact ret z dz _ _ _ _ _ _ _ _ _ _ _ _ _ _ _ _ _ _ _ _ _ _ h' tk' F' N'
section
variable {prog : Program} {w : World} {A : Around} {E : Value → Shared → Prop} {s : Shared} {h₀ : Heap} {L : Addr} {m : Str → Option Value} {env : Env}
theorem eq_same {a : Str} {t u : Tok} {Q : Value → Shared → Prop} (h : Q (.bool true) s) : wpAny (model prog w) A (compareOp .Eq (.str a t) (.str a u)) Q E s := by
  refine PyProof.Rows.eq_str ?_
  rw [beq_self_eq_true]; exact h
theorem first_ne {a b : Addr} {all : Led} {k : Str} {i j : Int} {t1 t2 t3 u1 u2 u3 : Tok} {n n' : Nat} {Q : Value → Shared → Prop} (Ns : News h₀ L s.heap all) (ha : (a, listOf #[.str k t1, .int i t2, .int j t3, .bool true, .none, .none] n) ∈ all) (hb : (b, listOf #[.str k u1, .int i u2, .int j u3, .bool true, .none, .none] n') ∈ all) (hu : A.units < cLine) (q : Q (.bool false) s) :
    wpAny (model prog w) A (compareOp .NotEq (.ref a) (.ref b)) Q E s := by
  refine rcne_true (xs := [.str k t1, .int i t2, .int j t3, .bool true, .none, .none]) (ys := [.str k u1, .int i u2, .int j u3, .bool true, .none, .none]) (News.isList Ns ha) (News.isList Ns hb) rfl hu (fun j h1 h2 => ?_) prog w E Q q
  match j, h1, h2 with
  | 0, _, _ => exact eq_str
  | 1, _, _ => exact eq_int
  | 2, _, _ => exact eq_int
  | 3, _, _ => exact EqAt.same _
  | 4, _, _ => exact EqAt.same _
  | 5, _, _ => exact EqAt.same _
  | j + 6, h1, _ => exact absurd h1 (by simp)
/-- both ways of «if way == 0: .. elif way < 4: ..» -/
structure AppsMark (al : Addr) : Prop where
  ok : True
def AppsT (h₀ : Heap) (L : Addr) (m : Str → Option Value) (news : Led) (al : Addr) (s : Shared) (f : Flow) (s₂ : Shared) : Prop :=
  f = .next ∧ ∃ jf tr v tt its na Y h' tk', v = trV tr tt ∧ s₂ = { s with heap := h', toks := tk' } ∧ AppsAt Y its jf tr ∧ (al, listOf (List.toArray its) na) ∈ Y ∧ (∀ p ∈ news, p.1 ≠ al → p ∈ Y) ∧ Fr h₀ L h' (fun y => if y = Str.ofString "transform" then some v else if y = Str.ofString "has_jfif" then some (.bool jf) else m y) ∧ News h₀ L h' Y
theorem apps_end {m' : Str → Option Value} {news all : Led} {al : Addr} {oal : Obj} {jf : Bool} {tr : Option Int} {v : Value} {tt : Tok} {its : List Value} {na : Nat} {h' : Heap} {tk' : Nat} (F : Fr h₀ L h' m') (N : News h₀ L h' all) (hA : AppsAt all its jf tr)
    (e : ∀ y, y ≠ Str.ofString "transform" → y ≠ Str.ofString "has_jfif" → m' y = m y) (e1 : m' (Str.ofString "transform") = some v) (e2 : m' (Str.ofString "has_jfif") = some (.bool jf)) (hv : v = trV tr tt) (m1 : (al, oal) ∈ all) (ho : oal = listOf its.toArray na) (sub : ∀ p ∈ news, p.1 ≠ al → p ∈ all) :
    AppsT h₀ L m news al s .next { s with heap := h', toks := tk' } := by
  subst ho
  have e' : m' = fun y => if y = Str.ofString "transform" then some v else if y = Str.ofString "has_jfif" then some (.bool jf) else m y := by
    funext y
    by_cases h1 : y = Str.ofString "transform"
    · rw [if_pos h1, h1, e1]
    · rw [if_neg h1]
      by_cases h2 : y = Str.ofString "has_jfif"
      · rw [if_pos h2, h2, e2]
      · rw [if_neg h2, e y h1 h2]
  exact ⟨rfl, jf, tr, v, tt, its, na, all, h', tk', hv, rfl, hA, m1, sub, e' ▸ F, N⟩
theorem apps_if {st : Stmt} {news rest keep : Led} {al pr dr src : Addr} {o odr : Obj} {na : Nat} {vs : List Value} {cps : List CDat} {pn iv : Int} {x : Addr} {Q : Flow → Shared → Prop} (_F : Fr h₀ L s.heap m) (_N : News h₀ L s.heap news) (_m1 : (al, listOf #[] na) ∈ news) (m2 : (pr, instObj 247 dr) ∈ news) (m3 : (dr, odr) ∈ news) (hP : PrsD odr pn iv x al) (_S : SrcObj o) (m4 : (src, o) ∈ news) (hr : ∀ p ∈ rest, p ∈ news) (lo : AllLt al rest)
    (n1 : pr ≠ al) (n2 : dr ≠ al) (n3 : src ≠ al) (hk : SubL keep rest) (hZ : Zip (CompAt rest) vs cps)
    (walk : AppsMark al → wpAny (model prog w) A (exec st env) (AppsT h₀ L m news al s) E s)
    (ret : ∀ jf tr v tt its na' Y h' tk', v = trV tr tt → AppsAt Y its jf tr → (al, listOf (List.toArray its) na') ∈ Y → (pr, instObj 247 dr) ∈ Y → (dr, odr) ∈ Y → PrsD odr pn iv x al → (src, o) ∈ Y → (∀ p ∈ rest, p ∈ Y) → SubL keep Y → Zip (CompAt Y) vs cps → Fr h₀ L h' (fun y => if y = Str.ofString "transform" then some v else if y = Str.ofString "has_jfif" then some (.bool jf) else m y) → News h₀ L h' Y → Q .next { s with heap := h', toks := tk' }) :
    wpAny (model prog w) A (exec st env) Q E s := by
  refine wpAny_mono (walk ⟨trivial⟩) (fun f s₂ h => ?_) fun _ _ e => e
  obtain ⟨rfl, jf, tr, v, tt, its, na', Y, h', tk', hv, rfl, hA, ma, sub, F', N'⟩ := h
  have up : ∀ p ∈ rest, p ∈ Y := fun p hp => sub p (hr p hp) (Nat.ne_of_lt (ktn_ltOf lo p hp))
  exact ret jf tr v tt its na' Y h' tk' hv hA ma (sub _ m2 n1) (sub _ m3 n2) hP (sub _ m4 n3) up (SubL.up up hk) (hZ.imp fun _ _ => CompAt.mono up) F' N'
theorem kp_cons {a : Addr} {p : Addr × Obj} {l Y : Led} (h1 : p.1 = a ∨ p ∈ Y) (h2 : ∀ q ∈ l, q.1 ≠ a → q ∈ Y) : ∀ q ∈ p :: l, q.1 ≠ a → q ∈ Y := fun q hq hn => by
  rcases List.mem_cons.mp hq with rfl | hq
  · exact h1.elim (fun e => absurd e hn) id
  · exact h2 q hq hn
theorem kp_tl {a : Addr} {l Y : Led} (h : ∀ q ∈ l, q ∈ Y) : ∀ q ∈ l, q.1 ≠ a → q ∈ Y := fun q hq _ => h q hq
end
theorem int5 {r : Int} (h0 : 0 ≤ r) (h5 : r < 5) : r = 0 ∨ r = 1 ∨ r = 2 ∨ r = 3 ∨ r = 4 := by omega
local macro_rules | `(tactic| k_all) => `(tactic| exact fun p hp => Nat.ne_of_lt (ktn_ltOf (by first | with_reducible assumption | exact and1 (by with_reducible assumption) | exact and2 (by with_reducible assumption) | exact and3 (by with_reducible assumption) | exact and4 (by with_reducible assumption) | exact and5 (by with_reducible assumption) | exact and6 (by with_reducible assumption) | exact and7 (by with_reducible assumption) | exact and8 (by with_reducible assumption) | exact and9 (by with_reducible assumption) | exact and10 (by with_reducible assumption) | exact and11 (by with_reducible assumption) | exact and12 (by with_reducible assumption) | exact and13 (by with_reducible assumption) | exact and14 (by with_reducible assumption) | exact and15 (by with_reducible assumption) | exact and16 (by with_reducible assumption)) p hp))
local macro_rules | `(tactic| k_offL) => `(tactic| first | (refine' Del.head ?a; (case a => k_all)) | (refine' Del.tail ?a ?b; (case a => k_ne); (case b => k_offL)))
theorem ln_Sett_1 : True := by
  k_with "UnrEnd" => (k_here; k_dflt (refine' unr_del ?Fz9 ?Nz9 ?Dz9 ?_; (case Fz9 => k_asm); (case Nz9 => k_asm); (case Dz9 => k_offL); k_whole))
  trivial
local macro_rules | `(tactic| k_mem) => `(tactic| (refine memOf ?_; ktr_member))
theorem ln_Sett_2 : True := by
  k_with "call ref" => (k_here; (with_reducible show wpAny _ _ (call (Value.ref 314) [Value.ref _, Value.int _ _]) _ _ _); k_dflt (refine' take_use ?Bz9 ?Fz9 ?Xz9 ?Nz9 ?Tz9 ?Kz9 ?Uz9 ?Sz9 ?t1z9 ?t2z9 ?dz9 ?uz9 ?_; (case Bz9 => k_asm); (case Fz9 => k_asm); (case Xz9 => k_asm); (case Nz9 => k_asm); (case Tz9 => k_asm); (case Kz9 => first | exact rfl | assumption); (case Uz9 => k_updF); (case Sz9 => assumption); (case t1z9 => first | decide | assumption | omega); (case t2z9 => first | decide | assumption | omega); (case dz9 => ktr_room); (case uz9 => ktr_units); k_whole); intro r' t' o' h' tk' hr0' hr1' hS' F' N'; (try dsimp only); (try k_fold))
  k_with "subl" => (intro p hp; (repeat (first | exact hp | refine List.Mem.tail _ ?_)))
  k_with "kp" => first | (refine kp_cons (.inl rfl) ?_; walk_at "kp") | (refine kp_cons (.inr (by k_mem)) ?_; walk_at "kp") | exact kp_tl (by walk_at "subl")
  k_with "ite" => (k_here; first | (refine ite_neg (by decide) ?_) | (refine ite_pos (by decide) ?_))
  k_with "call ref" => (k_here; (with_reducible show wpAny _ _ (call (Value.ref 247) [Value.int _ _]) _ _ _); k_dflt (refine' par_u ?Bz9 ?Fz9 ?Xz9 ?Nz9 ?Tz9 ?Kz9 ?dz9 ?uz9 ?_; (case Bz9 => k_asm); (case Fz9 => k_asm); (case Xz9 => k_asm); (case Nz9 => k_asm); (case Tz9 => k_asm); (case Kz9 => first | exact rfl | assumption); (case dz9 => ktr_room); (case uz9 => ktr_units)); intro x' dx' tb' q' al' sc' H1' H2' H3' H4' H5' H6' H7' H8' t1' t2' t3' t4' t5' t6' t7' t8' u1' u8' h' tk' F' N' l1 l2 l3 l4; (try k_lt2 l2); (try k_lt2 l3); (try simp only [AllLt, and_true] at l1); (try simp only [AllLt, and_true] at l4); (try k_sweep); (try dsimp only); (try k_fold))
  k_with "call ref" => (k_here; (with_reducible show wpAny _ _ (call (Value.ref 352) [Value.int _ _, _, _]) _ _ _); k_dflt (refine' lmod_u ?Bz9 ?Fz9 ?Xz9 ?Nz9 ?Tz9 ?Kz9 ?vz9 ?htrz9 ?h1z9 ?h4z9 ?dz9 ?uz9 ?_; (case Bz9 => k_asm); (case Fz9 => k_asm); (case Xz9 => k_asm); (case Nz9 => k_asm); (case Tz9 => k_asm); (case Kz9 => first | exact rfl | assumption); (case vz9 => assumption); (case htrz9 => exact AppsAt.tr (by assumption)); (case h1z9 => assumption); (case h4z9 => assumption); (case dz9 => ktr_room); (case uz9 => ktr_units)); intro t' h' tk' F' N'; (try k_sweep); (try dsimp only); (try k_fold))
  k_with "exec If" => (k_here; (fail_if_success (rename AppsMark _ => mk9r8)); (fail_if_success (rename AppsAt _ _ _ _ => mk9r8)); (rename Fr _ _ _ _ => kF9r8); (rename News _ _ _ _ => kN9r8); (rename Zip _ _ _ => hZ9r8); (rename SubL _ _ => hk9r8); k_dflt (refine' apps_if kF9r8 kN9r8 ?m1z9 ?m2z9 ?m3z9 ?Pz9 ?Sz9 ?m4z9 ?hrz9 ?loz9 ?n1z9 ?n2z9 ?n3z9 hk9r8 hZ9r8 ?_ ?_; (case m1z9 => k_mem); (case m2z9 => k_mem); (case m3z9 => k_mem); (case Pz9 => exact ⟨_, _, _, _, _, _, _, _, _, _, _, _, _, _, _, _, _, _, _, _, _, _, _, rfl⟩); (case Sz9 => assumption); (case m4z9 => k_mem); (case hrz9 => walk_at "subl"); (case loz9 => first | with_reducible assumption | exact and1 (by with_reducible assumption) | exact and2 (by with_reducible assumption)); (case n1z9 => k_ne); (case n2z9 => k_ne); (case n3z9 => k_ne)); rotate_left; (intro jf' tr' v' tt' its' na' Y' h' tk' hv' hA' ma' mp' mr' hP' ms' ur' kp' hZ' F' N'; (k_dflt (obtain ⟨s1', s2', s3', tt9'r8⟩ := kp'; clear tt9'r8)); (try k_sweep); (try k_fold)); rotate_left; (intro mk9r8; (rcases int5 hr0' hr1' with e | e | e | e | e <;> subst e); (all_goals (try k_fold))))
  k_with "apf" => ((case ez9 => (intro y h1 h2; simp only [if_neg h1, if_neg h2])); (case e1z9 => exact rfl); (case e2z9 => exact rfl); (case vz9 => first | exact trv_none | exact trv_some _ _); (case m1z9 => k_mem); (case oz9 => exact rfl); (case subz9 => walk_at "kp"))
  k_with "AppsT" => (k_here; (rename Fr _ _ _ _ => kF9r10); (rename News _ _ _ _ => kN9r10); k_dflt (first | (refine' apps_end (its := []) (jf := false) kF9r10 kN9r10 ?Az9 ?ez9 ?e1z9 ?e2z9 ?vz9 ?m1z9 ?oz9 ?subz9; (case Az9 => exact .none); walk_at "apf") | (refine' apps_end (its := [.ref _]) (jf := true) kF9r10 kN9r10 ?Az9 ?ez9 ?e1z9 ?e2z9 ?vz9 ?m1z9 ?oz9 ?subz9; (case Az9 => exact .jfif (by k_mem) (by k_mem) ⟨_, _, _, _, _, _, _, _, _, rfl⟩); walk_at "apf") | (refine' apps_end (its := [.ref _]) (jf := false) kF9r10 kN9r10 ?Az9 ?ez9 ?e1z9 ?e2z9 ?vz9 ?m1z9 ?oz9 ?subz9; (case Az9 => exact .adobe0 (by k_mem) (by k_mem) ⟨_, _, _, _, _, _, _, _, _, rfl⟩); walk_at "apf") | (refine' apps_end (its := [.ref _]) (jf := false) kF9r10 kN9r10 ?Az9 ?ez9 ?e1z9 ?e2z9 ?vz9 ?m1z9 ?oz9 ?subz9; (case Az9 => exact .adobe1 (by k_mem) (by k_mem) ⟨_, _, _, _, _, _, _, _, _, rfl⟩); walk_at "apf") | (refine' apps_end (its := [.ref _]) (jf := false) kF9r10 kN9r10 ?Az9 ?ez9 ?e1z9 ?e2z9 ?vz9 ?m1z9 ?oz9 ?subz9; (case Az9 => exact .adobe2 (by k_mem) (by k_mem) ⟨_, _, _, _, _, _, _, _, _, rfl⟩); walk_at "apf")))
  k_with "call ref" => (k_here; (with_reducible show wpAny _ _ (call (Value.ref 300) [Value.ref _]) _ _ _); (rename AppsAt _ _ _ _ => hA9r11); (rename Zip _ _ _ => hZ9r11); (rename PrsD _ _ _ _ _ => hP9r11); (rename FrameD _ _ _ _ _ _ _ => hF9r11); k_dflt (refine' own_u ?Bz9 ?Fz9 ?Xz9 ?Nz9 ?Tz9 ?Kz9 ?m1z9 ?m2z9 hP9r11 ?m3z9 hA9r11 ?m4z9 ?m5z9 hF9r11 ?m6z9 ?szz9 hZ9r11 ?idz9 ?h1z9 ?h4z9 ?kdz9 ?i0z9 ?i1z9 ?dz9 ?uz9 ?_; (case Bz9 => k_asm); (case Fz9 => k_asm); (case Xz9 => k_asm); (case Nz9 => k_asm); (case Tz9 => k_asm); (case Kz9 => first | exact rfl | assumption); (case m1z9 => assumption); (case m2z9 => assumption); (case m3z9 => assumption); (case m4z9 => assumption); (case m5z9 => assumption); (case m6z9 => assumption); (case szz9 => assumption); (case idz9 => assumption); (case h1z9 => assumption); (case h4z9 => assumption); (case kdz9 => assumption); (case i0z9 => assumption); (case i1z9 => assumption); (case dz9 => ktr_room); (case uz9 => ktr_units)); intro z' dz' H1' H2' H3' H4' H5' H6' H7' H8' t1' t2' t3' t4' t5' t6' t7' t8' u1' u2' u4' u7' u8' nn' h' tk' F' N'; (try k_sweep); (try dsimp only); (try k_fold))
  k_with "compareOp Eq str str" => (k_here; k_dflt (refine eq_same ?_))
  k_with "compareOp NotEq ref ref" => (k_here; k_dflt (refine' first_ne ?Nz9 ?az9 ?bz9 ?uz9 ?_; (case Nz9 => k_asm); (case az9 => k_mem); (case bz9 => k_mem); (case uz9 => ktr_units)))
  k_with "call builtin:len" => (k_here; (with_reducible show wpAny _ _ (call (Value.builtin "len") [Value.ref _]) _ _ _); k_dflt (refine' kun_lenL ?k1z9 ?k2z9 ?k3z9 ?_; (case k1z9 => exact News.isList (by k_asm) (by k_mem)); (case k2z9 => assumption); (case k3z9 => omega); k_whole))
  trivial
set_option maxHeartbeats 4000000 in
theorem sett_c (w : World) : ∀ {loose : List Str} {mean : ExcName → Option Value} {mg mb : Str → Option Value} {dp un : Nat} {gd : Option (List Code)} {cn : Str} {cs : Scope} {a : Addr} {ccd : Value} {cl : List (Str × Addr)} {outer : List Env} {A₀ : Around} {base h₀ : Heap} {L : Addr} {m : Str → Option Value} {s : Shared} {Q E : Value → Shared → Prop} {src x dx lst : Addr} {o odx : Obj} {f : FDat} {cps : List CDat} {nl : Nat} {vs : List Value} {rest : Led},
    Below A₀ base outer h₀ → Fr h₀ L s.heap m → (Mine.kv.heap_1_1 w.params).In h₀ → News h₀ L s.heap ((src, o) :: rest) → Top Mine.kv.view_1_2 loose mean mg mb h₀ → cs.kind = .function → OwnOff rest [src] → SrcObj o → SubL [(x, instObj 111 dx), (dx, odx), (lst, listOf vs.toArray nl)] rest → FrameD odx f.kind f.p f.h f.w lst f.n → (vs.toArray.size : Int) = (cps.length : Int) → Zip (CompAt rest) vs cps → f.kind ∈ kinds → idents cps → 1 ≤ cps.length → cps.length ≤ 4 → dp + 60 < recursionLimit → un + 700 < cLine →
    (∀ (o' : Obj) (h' : Heap) (tk' : Nat), SrcObj o' → Fr h₀ L h' m → News h₀ L h' ((src, o') :: rest) → Q (.bool true) { s with heap := h', toks := tk' }) →
    wpAny (model PySem.Challenge.rw_ok0144_01.row.prog w) (ktrTop dp un gd cn cs L a ccd cl outer) (call (.ref 359) [.ref src, .ref x]) Q E s := by
  k_fill
  intro loose mean mg mb dp un gd cn cs a ccd cl outer A₀ base h₀ L m s Q E src x dx lst o odx f cps nl vs rest B F X N T hk off hS hsub hF sz hZ hkd hid h1 h4 hd hu hret
  have hF0 := hF
  obtain ⟨_, _, _, _, _, _, _, _, _, _, _, _, _, _, _, _, _, _, rfl⟩ := hF
  have m1 := hsub.1
  have m2 := hsub.2.1
  have m3 := hsub.2.2.1
  refine wpAny_call ?_
  k_dflt cell_enter
  k_steps
  (rename Fr _ _ _ _ => kF9); (rename News _ _ _ _ => kN9)
  refine hret _ _ _ (by assumption) kF9 (news_sub kN9 (List.forall_mem_cons.mpr ⟨?_, fun p hp => ?_⟩))
  · k_mem
  · have hp' := ur' p hp
    repeat (first | exact hp' | refine List.Mem.tail _ ?_)
theorem sett_l {w : World} {loose : List Str} {mean : ExcName → Option Value} {mg mb : Str → Option Value} {dp un : Nat} {gd : Option (List Code)} {cn : Str} {cs : Scope} {a : Addr} {ccd : Value} {cl : List (Str × Addr)} {outer : List Env} {A₀ : Around} {base h₀ : Heap} {L : Addr} {m : Str → Option Value} {s : Shared} {Q E : Value → Shared → Prop} {src c1 c2 c3 : Addr} {o o1 o2 o3 : Obj} {rest l : Led} {x : Addr} {f : FDat} {cps : List CDat} (B : Below A₀ base outer h₀) (F : Fr h₀ L s.heap m) (X : (Mine.kv.heap_1_1 w.params).In h₀) (off : OwnOff rest [src, c1, c2, c3]) (N : News h₀ L s.heap ((c1, o1) :: (c2, o2) :: (c3, o3) :: (src, o) :: rest)) (T : Top Mine.kv.view_1_2 loose mean mg mb h₀) (hk : cs.kind = .function)
    (q1 : c1 ≠ src) (q2 : c2 ≠ src) (q3 : c3 ≠ src) (S : SrcObj o) (fr : FrameAt l x f cps) (u : Up l rest) (hkd : f.kind ∈ kinds) (hid : idents cps) (h1 : 1 ≤ cps.length) (h4 : cps.length ≤ 4) (hd : dp + 60 < recursionLimit) (hu : un + 700 < cLine)
    (ret : ∀ (o' : Obj) (h' : Heap) (tk' : Nat), SrcObj o' → Fr h₀ L h' m → News h₀ L h' ((c1, o1) :: (c2, o2) :: (c3, o3) :: (src, o') :: rest) → Q (.bool true) { s with heap := h', toks := tk' }) :
    wpAny (model PySem.Challenge.rw_ok0144_01.row.prog w) (ktrTop dp un gd cn cs L a ccd cl outer) (call (.ref 359) [.ref src, .ref x]) Q E s := by
  obtain ⟨dx, od, lst, nl, vs, a, b, hD, c, Z⟩ := fr.up u
  have up : ∀ p ∈ rest, p ∈ (c1, o1) :: (c2, o2) :: (c3, o3) :: rest := fun p hp => .tail _ (.tail _ (.tail _ hp))
  refine sett_c w (rest := (c1, o1) :: (c2, o2) :: (c3, o3) :: rest) B F X (news_sub N fun p hp => ?_) T hk (fun p hp b hb => ?_) S ⟨up _ a, up _ b, up _ c, trivial⟩ hD (by rw [List.size_toArray, Z.len]) (Z.imp fun _ _ => CompAt.mono up) hkd hid h1 h4 hd hu fun o' h' tk' S' F' N' => ret o' h' tk' S' F' (news_sub N' fun p hp => ?_)
  · simp only [List.mem_cons] at hp ⊢
    rcases hp with hp | hp | hp | hp | hp <;> simp only [hp, true_or, or_true]
  · rw [List.mem_singleton.mp hb]
    simp only [List.mem_cons] at hp
    rcases hp with rfl | rfl | rfl | hp
    · exact q1
    · exact q2
    · exact q3
    · exact off p hp src (.head _)
  · simp only [List.mem_cons] at hp ⊢
    rcases hp with hp | hp | hp | hp | hp <;> simp only [hp, true_or, or_true]
end Sett
section LawW
theorem ln_LawW_0 : True := by
  k_with_none
  w_top off
  trivial
theorem ln_LawW_1 : True := by
  k_with "call ref" => (k_here; (with_reducible show wpAny _ _ (call (Value.ref 321) [Value.ref _, Value.ref _]) _ _ _); first | (k_dflt (refine' one_int ?Iz9 ?Bz9 ?Fz9 ?Xz9 ?Nz9 ?Tz9 ?Kz9 ?qz9 ?Uz9 ?Sz9 ?t1z9 ?t2z9 ?dz9 ?uz9 ?_; (case Bz9 => k_asm); (case Fz9 => k_asm); (case Xz9 => k_asm); (case Nz9 => k_asm); (case Tz9 => k_asm); (case Kz9 => first | exact rfl | assumption); (case Iz9 => exact rfl); (case qz9 => k_ne); (case Uz9 => k_updF); (case Sz9 => assumption); (case t1z9 => exact Nat.zero_lt_succ _); (case t2z9 => exact Nat.le_of_ble_eq_true rfl); (case dz9 => ktr_room); (case uz9 => ktr_units); k_whole); intro x' t' o' h' tk' hx' hS' F' N'; (try dsimp only); (try k_fold); dsimp only [intsOf] at hx'; first | (rcases cnt4 hx' with e | e | e | e; all_goals subst e) | skip) | (k_dflt (refine' one_str ?Iz9 ?Bz9 ?Fz9 ?Xz9 ?Nz9 ?Tz9 ?Kz9 ?qz9 ?Uz9 ?Sz9 ?t1z9 ?t2z9 ?dz9 ?uz9 ?_; (case Bz9 => k_asm); (case Fz9 => k_asm); (case Xz9 => k_asm); (case Nz9 => k_asm); (case Tz9 => k_asm); (case Kz9 => first | exact rfl | assumption); (case Iz9 => exact rfl); (case qz9 => k_ne); (case Uz9 => k_updF); (case Sz9 => assumption); (case t1z9 => exact Nat.zero_lt_succ _); (case t2z9 => exact Nat.le_of_ble_eq_true rfl); (case dz9 => ktr_room); (case uz9 => ktr_units); k_whole); intro x' t' o' h' tk' hx' hS' F' N'; (try dsimp only); (try k_fold); dsimp only [textsOf] at hx'))
  trivial
open PyProof.Rows.LCg
theorem news_tail {h₀ h : Heap} {L : Addr} {p : Addr × Obj} {l : Led} (N : News h₀ L h (p :: l)) : News h₀ L h l := fun q hq => N q (.tail _ hq)
theorem pool_l {w : World} {loose : List Str} {mean : ExcName → Option Value} {mg mb : Str → Option Value} {dp un : Nat} {gd : Option (List Code)} {cn : Str} {cs : Scope} {a : Addr} {ccd : Value} {cl : List (Str × Addr)} {outer : List Env} {A₀ : Around} {base h₀ : Heap} {L : Addr} {m : Str → Option Value} {s : Shared} {Q E : Value → Shared → Prop} {sl c1 c2 c3 : Addr} {o1 o2 o3 : Obj} {vs : List Value} {ns : List Int} {t : Tok} (B : Below A₀ base outer h₀) (F : Fr h₀ L s.heap m) (X : (Mine.kv.heap_1_1 w.params).In h₀) (N : News h₀ L s.heap ((c1, o1) :: (c2, o2) :: (c3, o3) :: [])) (T : Top Mine.kv.view_1_2 loose mean mg mb h₀) (hk : cs.kind = .function)
    (hl : h₀.IsList sl vs.toArray) (hI : IntsAre vs ns) (hlay : PyData.layable0 (.list (ns.map .int)) = true) (hn : ns.length ≤ 63) (hd : dp + 10 < recursionLimit) (hu : un + 200 < cLine)
    (ret : ∀ (src : Addr) (o : Obj) (h' : Heap) (tk' : Nat), SrcObj o → @LT.lt Nat _ c1 src → @LT.lt Nat _ c2 src → @LT.lt Nat _ c3 src → OwnOff [] [src, c1, c2, c3] → Fr h₀ L h' m → News h₀ L h' ((c1, o1) :: (c2, o2) :: (c3, o3) :: (src, o) :: []) → Q (.ref src) { s with heap := h', toks := tk' }) :
    wpAny (model PySem.Challenge.rw_ok0144_01.row.prog w) (ktrTop dp un gd cn cs L a ccd cl outer) (call (.ref 307) [.ref sl, .int 0 t]) Q E s :=
  pool_c w B F X N T hk hl hI hlay hn hd hu fun src o h' tk' S F' N' l => ret src o h' tk' S l.1 l.2.1 l.2.2.1 (fun _ hp => nomatch hp) F' (news_sub N' fun p hp => by
    simp only [List.mem_cons, List.not_mem_nil, or_false] at hp ⊢
    rcases hp with hp | hp | hp | hp <;> simp only [hp, true_or, or_true])
theorem ln_LawW_2 : True := by
  k_with "nws" => first | k_asm | exact news_tail (by k_asm) | exact news_tail (news_tail (by k_asm)) | exact news_tail (news_tail (news_tail (by k_asm)))
  k_with "upc" => first | exact (fun _ h _ => h) | assumption | (refine Up.trans ?_ (by assumption); walk_at "upc")
  k_with "call ref" => (k_here; (with_reducible show wpAny _ _ (call (Value.ref 307) [Value.ref _, Value.int _ _]) _ _ _); k_dflt (refine' pool_l ?Bz9 ?Fz9 ?Xz9 ?Nz9 ?Tz9 ?Kz9 ?lz9 ?iz9 ?yz9 ?nz9 ?dz9 ?uz9 ?_; (case Bz9 => k_asm); (case Fz9 => k_asm); (case Xz9 => k_asm); (case Nz9 => k_asm); (case Tz9 => k_asm); (case Kz9 => first | exact rfl | assumption); (case lz9 => assumption); (case iz9 => assumption); (case yz9 => assumption); (case nz9 => omega); (case dz9 => ktr_room); (case uz9 => ktr_units); k_whole); intro src' o' h' tk' S' x1' x2' x3' of' F' N'; (try dsimp only); (try k_fold))
  k_with "call ref" => (k_here; (with_reducible show wpAny _ _ (call (Value.ref 328) [Value.ref _]) _ _ _); k_dflt (refine' frm_l ?Bz9 ?Fz9 ?Xz9 ?Nz9 ?Tz9 ?Kz9 ?k1z9 ?k2z9 ?k3z9 ?q1z9 ?q2z9 ?q3z9 ?offz9 ?Sz9 ?dz9 ?uz9 ?_; (case Bz9 => k_asm); (case Fz9 => k_asm); (case Xz9 => k_asm); (case offz9 => assumption); (case Nz9 => walk_at "nws"); (case Tz9 => k_asm); (case Kz9 => first | exact rfl | assumption); (case k1z9 => assumption); (case k2z9 => assumption); (case k3z9 => assumption); (case q1z9 => k_ne); (case q2z9 => k_ne); (case q3z9 => k_ne); (case Sz9 => assumption); (case dz9 => ktr_room); (case uz9 => ktr_units); k_whole); intro x' r' f' cps' o' h' tk' up' of' fr' kd' hn' h1' h4' hi' S' F' N'; (try k_sweep); (try dsimp only); (try k_fold))
  k_with "call ref" => (k_here; (with_reducible show wpAny _ _ (call (Value.ref 340) [Value.ref _, Value.ref _]) _ _ _); k_dflt (refine' div_l ?Bz9 ?Fz9 ?Xz9 ?Nz9 ?Tz9 ?Kz9 ?k1z9 ?k2z9 ?k3z9 ?q1z9 ?q2z9 ?q3z9 ?offz9 ?Sz9 ?frz9 ?subz9 ?hnz9 ?h1z9 ?h4z9 ?dz9 ?uz9 ?_; (case Bz9 => k_asm); (case Fz9 => k_asm); (case Xz9 => k_asm); (case offz9 => assumption); (case Nz9 => walk_at "nws"); (case Tz9 => k_asm); (case Kz9 => first | exact rfl | assumption); (case k1z9 => assumption); (case k2z9 => assumption); (case k3z9 => assumption); (case q1z9 => k_ne); (case q2z9 => k_ne); (case q3z9 => k_ne); (case Sz9 => assumption); (case frz9 => assumption); (case subz9 => walk_at "upc"); (case hnz9 => assumption); (case h1z9 => assumption); (case h4z9 => assumption); (case dz9 => ktr_room); (case uz9 => ktr_units); k_whole); intro d' r' R' o' h' tk' up' of' dv' hl' S' F' N'; (try k_sweep); (try dsimp only); (try k_fold))
  k_with "call ref" => (k_here; (with_reducible show wpAny _ _ (call (Value.ref 333) [Value.ref _]) _ _ _); k_dflt (refine' row_l ?Bz9 ?Fz9 ?Xz9 ?Nz9 ?Tz9 ?Kz9 ?k1z9 ?k2z9 ?k3z9 ?q1z9 ?q2z9 ?q3z9 ?offz9 ?frz9 ?subz9 ?h1z9 ?h4z9 ?dz9 ?uz9 ?_; (case Bz9 => k_asm); (case Fz9 => k_asm); (case Xz9 => k_asm); (case offz9 => assumption); (case Nz9 => walk_at "nws"); (case Tz9 => k_asm); (case Kz9 => first | exact rfl | assumption); (case k1z9 => assumption); (case k2z9 => assumption); (case k3z9 => assumption); (case q1z9 => k_ne); (case q2z9 => k_ne); (case q3z9 => k_ne); (case frz9 => assumption); (case subz9 => walk_at "upc"); (case h1z9 => first | assumption | (rw [outc_len]; assumption)); (case h4z9 => first | assumption | (rw [outc_len]; assumption)); (case dz9 => ktr_room); (case uz9 => ktr_units); k_whole); intro x' r' h' tk' up' of' rn' ra' F' N'; (try k_sweep); (try dsimp only); (try k_fold))
  trivial

local macro_rules | `(tactic| k_mem) => `(tactic| (refine memOf ?_; ktr_member))
theorem ln_LawW_3 : True := by
  k_with "eval ListComp" => (k_here; k_dflt (refine LCg.ListComp_U (F₀ := by k_asm) (by with_unfolding_all rfl) (by decide) (by rfl) (by decide) (by rfl) ?_))
  k_with "eval ListComp" => (k_here; (with_reducible show wpAny _ _ (eval (Expr.ListComp _ [⟨_, Expr.Name _ _, _, _⟩] _ _) _) _ _ _); k_dflt (refine ListComp_D (F₀ := by k_asm) (by with_unfolding_all rfl) (by decide) (by rfl) (by decide) (by rfl) ?_))
  k_with "CompSrcD" => (k_here; (rename DivAt _ _ _ _ => hD9r10); k_dflt (refine' kept_src ?hhz9 ?Fz9 ?Nz9 hD9r10 ?upz9 ?hnz9 ?offz9 ?_ ?_; (case hhz9 => exact rfl); (case Fz9 => k_asm); (case offz9 => assumption); (case Nz9 => walk_at "nws"); (case upz9 => walk_at "upc"); (case hnz9 => omega); ((intro i' t' I' oI' C' oC' D' m' ys' nw' bs' odq' rs' h' tk' E' hi' hC' hx' k1' k2' k3' kd' hd' hz' F' N' off' ne'; (try k_sweep))); rotate_left; ((intro D' ys' r' h' tk' up' of' dm' hl' pa' F' N'; (try k_sweep))); rotate_left))
  k_with "subscriptTail" => (k_here; (with_reducible show wpAny _ _ (subscriptTail _ _ (Value.ref _) (Value.int _ _)) _ _ _); k_dflt (refine' div_item ?Nz9 ?lz9 ?dz9 ?Zz9 ?iz9 ?_; (case Nz9 => k_asm); (case lz9 => k_mem); (case dz9 => assumption); (case Zz9 => assumption); (case iz9 => assumption)); intro r' o' hm1' hR'; (try (rename ∀ p ∈ _, p ∈ _ => hs9r11; have hm2' := hs9r11 _ hm1')))
  k_with "call type:list" => (k_here; (with_reducible show wpAny _ _ (call (Value.type "list") [Value.ref _]) _ _ _); k_dflt (refine' list_row ?Fz9 ?Nz9 ?mz9 ?Rz9 ?_; (case Fz9 => k_asm); (case Nz9 => k_asm); (case mz9 => k_mem); (case Rz9 => assumption); k_whole); intro τ' vs' n' h' hI' F' N' l1; (try k_sweep); (try dsimp only))
  k_with "newTuple" => (k_here; (with_reducible show wpAny _ _ (newTuple [_, _]) _ _ _); k_dflt (refine' new_tuple ?Fz9 ?Nz9 ?_ ?zz9; (case Fz9 => k_asm); (case Nz9 => k_asm); (case zz9 => exact Nat.le_of_ble_eq_true rfl); k_whole); intro τ' h' F' N' l1; (try k_sweep); (try dsimp only))
  k_with "GrowEnd" => (k_here; (rename Fr _ _ _ _ => kF9r14); (rename News _ _ _ _ => kN9r14); k_dflt (first | exact grow_pair kF9r14 kN9r14 (by assumption) (by assumption) ⟨_, _, _, _, rfl, .head _, _, _, _, rfl, .tail _ (.head _), by assumption⟩ | exact grow_one kF9r14 kN9r14 (by assumption) ⟨_, _, rfl, .head _, by assumption⟩ | exact grow_one kF9r14 kN9r14 (by assumption) ⟨_, _, _, _, rfl, .head _, _, _, rfl, .tail _ (by assumption), by assumption⟩ | exact grow_none kF9r14 kN9r14 ⟨_, _, rfl, by assumption, by assumption⟩))
  k_with "call type:tuple" => (k_here; (with_reducible show wpAny _ _ (call (Value.type "tuple") [Value.ref _]) _ _ _); k_dflt (refine' tuple_2 ?Fz9 ?Nz9 ?mz9 ?Rz9 ?_ ?_; (case Fz9 => k_asm); (case Nz9 => k_asm); (case mz9 => k_mem); (case Rz9 => assumption); ((intro τ' oτ' h' hT' F' N' l1; (try k_sweep))); rotate_left; (intro hT'); rotate_left))
  k_with "call type:dict" => (k_here; (with_reducible show wpAny _ _ (call (Value.type "dict") [Value.ref _]) _ _ _); k_dflt (refine' dict_l ?vuz9 ?Az9 ?Fz9 ?Nz9 (TopRead.nolimit (by k_asm)) ?offz9 ?mz9 ?lz9 ?nz9 ?pz9 ?_; (case Az9 => exact rfl); (case Fz9 => k_asm); (case offz9 => assumption); (case Nz9 => walk_at "nws"); (case mz9 => k_mem); (case pz9 => assumption); (case lz9 => assumption); (case nz9 => omega); (case vuz9 => first | exact LstV.up | exact TupV.up)); intro d' r' h' tk' up' of' dv' F' N'; (try k_sweep); (try dsimp only); (try k_fold))
  trivial
theorem frame_open {h₀ h : Heap} {L src c1 c2 c3 x : Addr} {o o1 o2 o3 : Obj} {l rest : Led} {f : FDat} {cps : List CDat} (_off : OwnOff rest [src, c1, c2, c3]) (_N : News h₀ L h ((c1, o1) :: (c2, o2) :: (c3, o3) :: (src, o) :: rest)) (hF : FrameAt l x f cps) (u : Up l rest) :
    ∃ (dx lst : Addr) (nl : Nat) (vs : List Value) (H1 H2 H3 H4 H5 H6 : Int) (t1 t2 t3 t4 t5 t6 u1 u2 u3 u4 u6 : Tok) (nn : Nat), (x, instObj 111 dx) ∈ rest ∧ (dx, dictOf [⟨H1, .str (Str.ofString "kind") t1, .str f.kind u1⟩, ⟨H2, .str (Str.ofString "precision") t2, .int f.p u2⟩, ⟨H3, .str (Str.ofString "height") t3, .int f.h u3⟩, ⟨H4, .str (Str.ofString "width") t4, .int f.w u4⟩, ⟨H5, .str (Str.ofString "components") t5, .ref lst⟩, ⟨H6, .str (Str.ofString "n") t6, .int f.n u6⟩] nn) ∈ rest ∧ (lst, listOf vs.toArray nl) ∈ rest ∧ (vs.toArray.size : Int) = (cps.length : Int) := by
  obtain ⟨dx, od, lst, nl, vs, a, b, hD, c, z⟩ := hF.up u
  obtain ⟨H1, H2, H3, H4, H5, H6, t1, t2, t3, t4, t5, t6, u1, u2, u3, u4, u6, nn, rfl⟩ := hD
  exact ⟨dx, lst, nl, vs, H1, H2, H3, H4, H5, H6, t1, t2, t3, t4, t5, t6, u1, u2, u3, u4, u6, nn, a, b, c, by rw [List.size_toArray, z.len]⟩
theorem ln_LawW_4 : True := by
  k_with "getAttr ref" => (k_here; (with_reducible show wpAny _ _ (getAttr (Value.ref _) (PySem.Str.ofString "components") _) _ _ _); (rename FrameAt _ _ _ _ => hF9r17); have hO9r17 := frame_open (by assumption) (by walk_at "nws") hF9r17 (by walk_at "upc"); obtain ⟨dx', lst', nl', vs', H1', H2', H3', H4', H5', H6', t1', t2', t3', t4', t5', t6', u1', u2', u3', u4', u6', nn', m1', m2', m3', sz'⟩ := hO9r17; k_dflt (refine' get_own ?k1z9 ?k2z9 ?k3z9 ?k4z9 ?k5z9 ?k6z9 ?k7z9 ?k8z9 ?k9z9 ?_; (case k1z9 => k_asm); (case k2z9 => k_asm); (case k3z9 => k_inst); (case k4z9 => k_is); (case k5z9 => k_is); (case k6z9 => k_is); (case k7z9 => k_is); (case k8z9 => k_get); (case k9z9 => k_handed); k_whole))
  trivial
theorem isList_law {h₀ h : Heap} {L src c1 c2 c3 a : Addr} {o o1 o2 o3 : Obj} {xs : Array Value} {n : Nat} {l rest : Led} (_off : OwnOff rest [src, c1, c2, c3]) (N : News h₀ L h ((c1, o1) :: (c2, o2) :: (c3, o3) :: (src, o) :: rest)) (hm : (a, listOf xs n) ∈ l) (u : Up l rest) : h.IsList a xs :=
  News.isList N (.tail _ (.tail _ (.tail _ (.tail _ (u _ hm nc_list)))))
theorem ln_LawW_5 : True := by
  k_with "call builtin:len" => (k_here; (with_reducible show wpAny _ _ (call (Value.builtin "len") [Value.ref _]) _ _ _); k_dflt (refine' kun_lenL ?k1z9 ?k2z9 ?k3z9 ?_; (case k1z9 => first | exact News.isList (by k_asm) (by k_mem) | exact isList_law (by assumption) (by walk_at "nws") (by assumption) (by walk_at "upc")); (case k2z9 => assumption); (case k3z9 => omega); k_whole))
  k_with "CompSrc" => (k_here; (fail_if_success (rename TupsIn _ _ _ => hT9r19)); (rename DivAt _ _ _ _ => hD9r19); k_dflt (refine' rows_src ?hhz9 ?Fz9 ?Nz9 ?hrz9 hD9r19 ?upz9 ?hlz9 ?hnz9 ?offz9 ?_ ?_; (case hhz9 => exact rfl); (case Fz9 => k_asm); (case offz9 => assumption); (case Nz9 => walk_at "nws"); (case hrz9 => assumption); (case upz9 => walk_at "upc"); (case hlz9 => assumption); (case hnz9 => assumption); ((intro i' t' I' oI' C' oC' D' m' ys' nw' bs' odq' rs' h' tk' E' hi' hC' hx' k1' k2' k3' kd' hd' hz' hs' F' N' off' ne'; (try k_sweep))); rotate_left; ((intro D' ys' r' h' tk' up' of' dm' hT' sz' F' N'; (try k_sweep))); rotate_left))
  k_with "call ref" => (k_here; (with_reducible show wpAny _ _ (call (Value.ref 345) [Value.ref _]) _ _ _); (rename TupsIn _ _ _ => hT9r20); k_dflt (refine' numb_l ?Bz9 ?Fz9 ?Xz9 ?Nz9 ?Tz9 ?Kz9 ?k1z9 ?k2z9 ?k3z9 ?q1z9 ?q2z9 ?q3z9 ?offz9 hT9r20 ?mz9 ?subz9 ?h4z9 ?dz9 ?uz9 ?_; (case Bz9 => k_asm); (case Fz9 => k_asm); (case Xz9 => k_asm); (case offz9 => assumption); (case Nz9 => walk_at "nws"); (case Tz9 => k_asm); (case Kz9 => first | exact rfl | assumption); (case k1z9 => assumption); (case k2z9 => assumption); (case k3z9 => assumption); (case q1z9 => k_ne); (case q2z9 => k_ne); (case q3z9 => k_ne); (case mz9 => assumption); (case subz9 => walk_at "upc"); (case h4z9 => omega); (case dz9 => ktr_room); (case uz9 => ktr_units); k_whole); intro x' ys' nn' r' h' tk' up' of' hI' sz' dm' F' N'; (try k_sweep); (try dsimp only); (try k_fold))
  k_with "call ref" => (k_here; (with_reducible show wpAny _ _ (call (Value.ref 286) [Value.ref _, Value.ref _]) _ _ _); (rename FrameAt _ _ _ _ => hF9r21); (rename DivAt _ _ _ _ => hD9r21); k_dflt (refine' slot_l ?Bz9 ?Fz9 ?Xz9 ?Nz9 ?Tz9 ?Kz9 ?k1z9 ?k2z9 ?k3z9 ?q1z9 ?q2z9 ?q3z9 ?offz9 hF9r21 ?subz9 hD9r21 ?sub2z9 ?hcz9 ?h4z9 ?dz9 ?uz9 ?_; (case Bz9 => k_asm); (case Fz9 => k_asm); (case Xz9 => k_asm); (case offz9 => assumption); (case Nz9 => walk_at "nws"); (case Tz9 => k_asm); (case Kz9 => first | exact rfl | assumption); (case k1z9 => assumption); (case k2z9 => assumption); (case k3z9 => assumption); (case q1z9 => k_ne); (case q2z9 => k_ne); (case q3z9 => k_ne); (case subz9 => walk_at "upc"); (case sub2z9 => walk_at "upc"); (case hcz9 => exact Eq.symm (by assumption)); (case h4z9 => assumption); (case dz9 => ktr_room); (case uz9 => ktr_units); k_whole); intro x' y' tb' r' h' tk' up' of' dm' fr' ta' F' N'; (try k_sweep); (try dsimp only); (try k_fold))
  k_with "exec For Name Call cons nil" => (k_here; k_dflt (refine wpAny_For ?_))
  trivial
theorem for_due' {w : World} {A : Around} {E : Value → Shared → Prop} {s : Shared} {env : Env} {h₀ : Heap} {L : Addr} {m₀ : Str → Option Value} {Q : Flow → Shared → Prop} {prog : Program} {target : Expr} {body : List Stmt} {rg r src c1 c2 c3 sl : Addr} {t u v : Tok} {o o1 o2 o3 : Obj} {l rest₀ rest : Led} {f : FDat} {cps : List CDat} {R : List (List Int)} {ss : List Value} {ns n : Nat}
    (hh : A.handled = none) (hr : IsRange s.heap rg 0 (n : Int) 1 t u v) (hn : R.length = n) (hl : R.length = cps.length) (h4 : cps.length ≤ 4) (F : Fr h₀ L s.heap m₀) (off : OwnOff rest [src, c1, c2, c3]) (N : News h₀ L s.heap ((c1, o1) :: (c2, o2) :: (c3, o3) :: (src, o) :: rest)) (rn : RowNew src rest₀ rest r f cps)
    (hI : IntsAre ss ((List.range R.length).map (numb R))) (ms : (sl, listOf ss.toArray ns) ∈ l) (ul : Up l rest₀)
    (hE : PassesOwn (model prog w) A env E) (ht : ∀ v, letOwnedTupleGo target (.ref s.heap.objs.size) v = pure ())
    (turn : ∀ (i : Nat) (I : Addr) (t : Tok) (u : Option Value) (e ml : Addr) (vs : List Value) (c : CDat) (t1 t2 t3 t4 a1 a2 a3 a4 a5 : Tok) (n nr nm : Nat) (Y : Led) (h : Heap) (tk : Nat), i < 4 → i < cps.length → i < ((List.range R.length).map (numb R)).length → DueItem vs i e → (sl, listOf ss.toArray ns) ∈ Y → OwnOff Y [e] → (@Ne Nat e I ∧ @Ne Nat e c1 ∧ @Ne Nat e c2 ∧ @Ne Nat e c3 ∧ @Ne Nat e src ∧ @Ne Nat e r ∧ @Ne Nat e ml) →
      Fr h₀ L h (fun y => if y = Str.ofString "place" then u else m₀ y) → News h₀ L h ((I, itR ((i + 1 : Nat) : Int) ((cps.length : Int) - ((i + 1 : Nat) : Int))) :: (e, listOf #[.int c.i t1, .int c.a t2, .int c.d t3, .int c.q t4] n) :: (c1, o1) :: (c2, o2) :: (c3, o3) :: (src, o) :: (r, listOf #[.str f.kind a1, .int f.p a2, .int f.h a3, .int f.w a4, .int f.n a5, .ref ml] nr) :: (ml, listOf vs.toArray nm) :: Y) →
      wpAny (model prog w) A (assign target env (.int (i : Int) t)) (fun _ s₂ => wpAny (model prog w) A (execs body env) (DueTurn h₀ L m₀ I (itR ((i + 1 : Nat) : Int) ((cps.length : Int) - ((i + 1 : Nat) : Int))) e c t1 t2 t3 n (((List.range R.length).map (numb R)).getD i 0) ((c1, o1) :: (c2, o2) :: (c3, o3) :: (src, o) :: (r, listOf #[.str f.kind a1, .int f.p a2, .int f.h a3, .int f.w a4, .int f.n a5, .ref ml] nr) :: (ml, listOf vs.toArray nm) :: Y) { s with heap := h, toks := tk } Q) E s₂) E { s with heap := h, toks := tk })
    (done : ∀ (u : Option Value) (rest' : Led) (h : Heap) (tk : Nat), Up rest₀ rest' → OwnOff rest' [src, c1, c2, c3] → RowAt rest' r f (outc cps R cps.length) → Fr h₀ L h (fun y => if y = Str.ofString "place" then u else m₀ y) → News h₀ L h ((c1, o1) :: (c2, o2) :: (c3, o3) :: (src, o) :: rest') → Q .next { s with heap := h, toks := tk }) :
    wpAny (model prog w) A (pyIter (.ref rg)) (fun it s₂ => codeAny (model prog w) A (.forLoop target it body [] env) (fun r s' => match r with | .ok f => Q f s' | .error e => cameBackBy (model prog w) A env E e s') s₂) E s :=
  for_due (zs := (List.range R.length).map (numb R)) hh hr (hn.symm.trans hl) h4 F off N rn hI ms ul (by rw [List.length_map, List.length_range, hl]) hE ht turn (by rw [mixi_eq hl]; exact done)
theorem ln_LawW_6 : True := by
  k_with "pyIter ref" => (k_here; (rename RowNew _ _ _ _ _ _ => rn9r23); (rename TupsIn _ _ _ => hT9r23); k_dflt (refine' for_due' (sl := ?slz9) ?hhz9 ?hrz9 ?hnz9 ?hlz9 ?h4z9 ?Fz9 ?offz9 ?Nz9 rn9r23 ?hIz9 ?msz9 ?ulz9 ?hEz9 ?htz9 ?dturnz9 ?ddonez9; (case hhz9 => exact rfl); (case hIz9 => assumption); (case hrz9 => assumption); (case hnz9 => exact rfl); (case hlz9 => assumption); (case h4z9 => assumption); (case Fz9 => k_asm); (case offz9 => assumption); (case Nz9 => walk_at "nws"); (case msz9 => assumption); (case ulz9 => walk_at "upc"); (case htz9 => intro _; rfl); (case' dturnz9 => (intro i' I' t' u' e' ml' vs' cd' t1' t2' t3' t4' a1' a2' a3' a4' a5' n' nr' nm' Y' h' tk' b1' b2' b3' di' sm' oy' ne' F' N'; (try k_sweep))); (case' ddonez9 => (intro u' r' h' tk' up' of' ra' F' N'; (try k_sweep)))))
  k_with "subscriptTail" => (k_here; (with_reducible show wpAny _ _ (subscriptTail _ _ (Value.ref _) (Value.int _ _)) _ _ _); (rename DueItem _ _ _ => di9r24); k_dflt (first | (refine' item_due ?Nz9 ?lz9 di9r24 ?h4z9 ?_; (case Nz9 => k_asm); (case lz9 => k_mem); (case h4z9 => omega)) | (refine' item_zs ?Nz9 ?lz9 ?Iz9 ?iz9 ?h4z9 ?_; (case Nz9 => k_asm); (case lz9 => k_mem); (case Iz9 => assumption); (case iz9 => assumption); (case h4z9 => omega); intro u')))
  k_with "DueTurn" => (k_here; (rename Fr _ _ _ _ => kF9r25); (rename News _ _ _ _ => kN9r25); k_dflt (exact due_end kF9r25 kN9r25 (fun y hy => by simp only [if_neg hy])))
  trivial
section
variable {w : World} {A : Around} {E : Value → Shared → Prop} {s : Shared} {h₀ : Heap} {L src c1 c2 c3 : Addr} {o o1 o2 o3 : Obj} {l l' rest : Led}
theorem sub_law : ∀ p ∈ rest, p ∈ (c1, o1) :: (c2, o2) :: (c3, o3) :: (src, o) :: rest := fun p hp => .tail _ (.tail _ (.tail _ (.tail _ hp)))
theorem row_ne_l {prog : Program} {r b : Addr} {f : FDat} {cs : List CDat} {Q : Value → Shared → Prop} (_off : OwnOff rest [src, c1, c2, c3]) (N : News h₀ L s.heap ((c1, o1) :: (c2, o2) :: (c3, o3) :: (src, o) :: rest)) (h : RowAt l r f cs) (u : Up l rest) (k : RowAt l' b f cs) (u' : Up l' rest) (hu : A.units + 2 < cLine) (q : Q (.bool false) s) :
    wpAny (model prog w) A (compareOp .NotEq (.ref r) (.ref b)) Q E s := row_ne N sub_law (h.up u) (k.up u') hu q
theorem row_eq_l {prog : Program} {r b : Addr} {f : FDat} {cs : List CDat} {Q : Value → Shared → Prop} (_off : OwnOff rest [src, c1, c2, c3]) (N : News h₀ L s.heap ((c1, o1) :: (c2, o2) :: (c3, o3) :: (src, o) :: rest)) (h : RowAt l r f cs) (u : Up l rest) (k : RowAt l' b f cs) (u' : Up l' rest) (hu : A.units + 2 < cLine) (q : Q (.bool true) s) :
    wpAny (model prog w) A (compareOp .Eq (.ref r) (.ref b)) Q E s := row_eq N sub_law (h.up u) (k.up u') hu q
theorem dict_ne_l {a b : Addr} {pv : List (Int × List Int)} {Q : Value → Shared → Prop} (_off : OwnOff rest [src, c1, c2, c3]) (N : News h₀ L s.heap ((c1, o1) :: (c2, o2) :: (c3, o3) :: (src, o) :: rest)) (h : DictV w TupV l a pv) (u : Up l rest) (k : DictV w TupV l' b pv) (u' : Up l' rest) (hu : A.units + 2 < cLine) (q : Q (.bool false) s) :
    wpAny (model PySem.Challenge.rw_ok0144_01.row.prog w) A (compareOp .NotEq (.ref a) (.ref b)) Q E s :=
  dict_ne N sub_law (h.up TupV.up u) (k.up TupV.up u') (fun x y ns hx hy => tupV_eq N sub_law hx hy (by rw [units_in1]; omega)) (by omega) q
theorem dict_eq_l {a b : Addr} {pv : List (Int × List Int)} {Q : Value → Shared → Prop} (_off : OwnOff rest [src, c1, c2, c3]) (N : News h₀ L s.heap ((c1, o1) :: (c2, o2) :: (c3, o3) :: (src, o) :: rest)) (h : DictV w LstV l a pv) (u : Up l rest) (k : DictV w LstV l' b pv) (u' : Up l' rest) (hu : A.units + 2 < cLine) (q : Q (.bool true) s) :
    wpAny (model PySem.Challenge.rw_ok0144_01.row.prog w) A (compareOp .Eq (.ref a) (.ref b)) Q E s :=
  dict_eq N sub_law (h.up LstV.up u) (k.up LstV.up u') (fun x y ns hx hy => lstV_eq N sub_law hx hy (by rw [units_in1]; omega)) (by omega) q
theorem empty_ne {a b : Addr} {oa ob : Obj} {all : Led} {Q : Value → Shared → Prop} (N : News h₀ L s.heap all) (ma : (a, oa) ∈ all) (mb : (b, ob) ∈ all) (ha : oa.IsDictOf (PySem.intKind PySem.Challenge.rw_ok0144_01.row.prog w) []) (hb : ob.IsDictOf (PySem.intKind PySem.Challenge.rw_ok0144_01.row.prog w) []) (la : (a == sysModules) = false) (lb : (b == sysModules) = false) (hu : A.units < cLine) (q : Q (.bool false) s) :
    wpAny (model PySem.Challenge.rw_ok0144_01.row.prog w) A (compareOp .NotEq (.ref a) (.ref b)) Q E s :=
  keq_ne (r := true) la lb (Heap.dictOf_iff.mpr ⟨oa, (N _ ma).1, ha⟩) (Heap.dictOf_iff.mpr ⟨ob, (N _ mb).1, hb⟩) hu (fun _ => KeqHits.nil) q
theorem tables_open {h : Heap} {tb : Addr} {R : List (List Int)} {cps : List CDat} (_off : OwnOff rest [src, c1, c2, c3]) (_N : News h₀ L h ((c1, o1) :: (c2, o2) :: (c3, o3) :: (src, o) :: rest)) (hT : TablesAt w l tb (tabs R cps.length)) (u : Up l rest) (hl : R.length = cps.length) :
    ∃ (dt dz dc dk : Addr) (oc ok : Obj) (H1 H2 H3 : Int) (t1 t2 t3 : Tok) (n : Nat), (tb, instObj 226 dt) ∈ rest ∧ (dt, dictOf [⟨H1, .str (Str.ofString "quant") t1, .ref dz⟩, ⟨H2, .str (Str.ofString "codes") t2, .ref dc⟩, ⟨H3, .str (Str.ofString "conditioning") t3, .ref dk⟩] n) ∈ rest ∧
      DictV w TupV rest dz (pvOf (numb R) R R.length) ∧ (dc, oc) ∈ rest ∧ oc.IsDictOf (PySem.intKind PySem.Challenge.rw_ok0144_01.row.prog w) [] ∧ (dc == sysModules) = false ∧ (dk, ok) ∈ rest ∧ ok.IsDictOf (PySem.intKind PySem.Challenge.rw_ok0144_01.row.prog w) [] ∧ (dk == sysModules) = false := by
  obtain ⟨dt, ot, dz, dc, dk, oz, oc, ok, kvs, a1, a2, a3, a4, a5, a6, a7, a8, a9, a10, a11, a12, a13⟩ := hT.up u
  obtain ⟨H1, H2, H3, t1, t2, t3, n, rfl⟩ := a3
  rw [← hl, tabs_eq] at a6
  exact ⟨dt, dz, dc, dk, oc, ok, H1, H2, H3, t1, t2, t3, n, a1, a2, ⟨oz, kvs, a4, a7, a5, a6.drel⟩, a8, a9, a10, a11, a12, a13⟩
end
theorem ln_LawW_7 : True := by
  k_with "compareOp NotEq ref ref" => (k_here; (with_reducible show wpAny _ _ (compareOp CmpOp.NotEq (Value.ref _) (Value.ref _)) _ _ _); k_dflt (first | (refine' row_ne_l ?offz9 ?Nz9 ?hz9 ?uz9 ?kz9 ?u2z9 ?huz9 ?_; (case offz9 => assumption); (case Nz9 => walk_at "nws"); (case hz9 => assumption); (case uz9 => walk_at "upc"); (case kz9 => assumption); (case u2z9 => walk_at "upc"); (case huz9 => ktr_units)) | (refine' dict_ne_l ?offz9 ?Nz9 ?hz9 ?uz9 ?kz9 ?u2z9 ?huz9 ?_; (case offz9 => assumption); (case Nz9 => walk_at "nws"); (case hz9 => assumption); (case uz9 => walk_at "upc"); (case kz9 => assumption); (case u2z9 => walk_at "upc"); (case huz9 => ktr_units)) | (refine' empty_ne ?Nz9 ?maz9 ?mbz9 ?haz9 ?hbz9 ?laz9 ?lbz9 ?huz9 ?_; (case Nz9 => k_asm); (case maz9 => k_mem); (case mbz9 => k_mem); (case haz9 => assumption); (case hbz9 => assumption); (case laz9 => assumption); (case lbz9 => assumption); (case huz9 => ktr_units))))
  k_with "compareOp Eq ref ref" => (k_here; (with_reducible show wpAny _ _ (compareOp CmpOp.Eq (Value.ref _) (Value.ref _)) _ _ _); k_dflt (first | (refine' row_eq_l ?offz9 ?Nz9 ?hz9 ?uz9 ?kz9 ?u2z9 ?huz9 ?_; (case offz9 => assumption); (case Nz9 => walk_at "nws"); (case hz9 => assumption); (case uz9 => walk_at "upc"); (case kz9 => assumption); (case u2z9 => walk_at "upc"); (case huz9 => ktr_units)) | (refine' dict_eq_l ?offz9 ?Nz9 ?hz9 ?uz9 ?kz9 ?u2z9 ?huz9 ?_; (case offz9 => assumption); (case Nz9 => walk_at "nws"); (case hz9 => assumption); (case uz9 => walk_at "upc"); (case kz9 => assumption); (case u2z9 => walk_at "upc"); (case huz9 => ktr_units))))
  k_with "getAttr ref" => (k_here; (with_reducible show wpAny _ _ (getAttr (Value.ref _) _ _) _ _ _); (rename TablesAt _ _ _ _ => hT9r28); have hO9r28 := tables_open (by assumption) (by walk_at "nws") hT9r28 (by walk_at "upc") (by assumption); obtain ⟨dt', dz', dc', dk', oc', ok', H1', H2', H3', t1', t2', t3', n', m1', m2', dv', mc', ic', lc', mk', ik', lk'⟩ := hO9r28; k_dflt (refine' get_own ?k1z9 ?k2z9 ?k3z9 ?k4z9 ?k5z9 ?k6z9 ?k7z9 ?k8z9 ?k9z9 ?_; (case k1z9 => k_asm); (case k2z9 => k_asm); (case k3z9 => k_inst); (case k4z9 => k_is); (case k5z9 => k_is); (case k6z9 => k_is); (case k7z9 => k_is); (case k8z9 => k_get); (case k9z9 => k_handed); k_whole))
  k_with "getAttr ref" => (k_here; (with_reducible show wpAny _ _ (getAttr (Value.ref _) (PySem.Str.ofString "components") _) _ _ _); (rename FrameAt _ _ _ _ => hF9r29); have hO9r29 := frame_open (by assumption) (by walk_at "nws") hF9r29 (by walk_at "upc"); obtain ⟨dx', lst', nl', vs', H1', H2', H3', H4', H5', H6', t1', t2', t3', t4', t5', t6', u1', u2', u3', u4', u6', nn', m1', m2', m3', sz'⟩ := hO9r29; k_dflt (refine' get_own ?k1z9 ?k2z9 ?k3z9 ?k4z9 ?k5z9 ?k6z9 ?k7z9 ?k8z9 ?k9z9 ?_; (case k1z9 => k_asm); (case k2z9 => k_asm); (case k3z9 => k_inst); (case k4z9 => k_is); (case k5z9 => k_is); (case k6z9 => k_is); (case k7z9 => k_is); (case k8z9 => k_get); (case k9z9 => k_handed); k_whole))
  k_with "CompSrc" => (k_here; (rename TupsIn _ _ _ => hT9r30); k_dflt (refine' pairs_src ?hhz9 ?Fz9 ?Nz9 ?hrz9 hT9r30 ?m1z9 ?u1z9 ?hIz9 ?m2z9 ?u2z9 ?hlz9 ?hnz9 ?offz9 ?_ ?_; (case hhz9 => exact rfl); (case Fz9 => k_asm); (case offz9 => assumption); (case Nz9 => walk_at "nws"); (case hrz9 => assumption); (case u1z9 => walk_at "upc"); (case hIz9 => assumption); (case m2z9 => assumption); (case u2z9 => walk_at "upc"); (case m1z9 => assumption); (case hlz9 => exact rfl); (case hnz9 => omega); ((intro i' t' I' oI' C' oC' D' m' ys' nw' bs' h' tk' E' hi' hC' hx' k1' k2' k3' mr' mz' hT' F' N' off' ne'; (try k_sweep))); rotate_left; ((intro D' ys' r' h' tk' up' of' dm' hl' pa' F' N'; (try k_sweep))); rotate_left))
  trivial
theorem tups_item {prog : Program} {w : World} {A : Around} {E : Value → Shared → Prop} {s : Shared} {h₀ : Heap} {L : Addr} {value slice : Expr} {rl : Addr} {n i : Nat} {all bs : Led} {vs : List Value} {R : List (List Int)} {t : Tok} {Q : Value → Shared → Prop} (N : News h₀ L s.heap all) (hl : (rl, listOf vs.toArray n) ∈ all) (hT : TupsIn bs vs R) (hi : i < R.length) (h4 : R.length ≤ 4)
    (h : ∀ τ oτ, (τ, oτ) ∈ bs → TupO oτ (R.getD i []) → Q (.ref τ) s)
    (hs : subscripted slice false (.ref rl) (.int i t) = operate [.ref rl, .int i t] (getItem (.ref rl) (.int i t)) := by with_unfolding_all rfl) : wpAny (model prog w) A (subscriptTail value slice (.ref rl) (.int (i : Int) t)) Q E s :=
  tail_row N hT hl (Int.natCast_nonneg i) (by omega) h4 h hs
theorem zs_item {prog : Program} {w : World} {A : Around} {E : Value → Shared → Prop} {s : Shared} {h₀ : Heap} {L : Addr} {value slice : Expr} {sl : Addr} {n i : Nat} {all : Led} {vs : List Value} {R : List (List Int)} {t : Tok} {Q : Value → Shared → Prop} (N : News h₀ L s.heap all) (hl : (sl, listOf vs.toArray n) ∈ all) (hI : IntsAre vs ((List.range R.length).map (numb R))) (hi : i < R.length) (h4 : R.length ≤ 4) (h : ∀ u, Q (.int (numb R i) u) s)
    (hs : subscripted slice false (.ref sl) (.int i t) = operate [.ref sl, .int i t] (getItem (.ref sl) (.int i t)) := by with_unfolding_all rfl) :
    wpAny (model prog w) A (subscriptTail value slice (.ref sl) (.int (i : Int) t)) Q E s :=
  item_zs N hl hI (by simpa using hi) (by omega) (fun u => by
    have e : ((List.range R.length).map (numb R)).getD i 0 = numb R i := by rw [List.getD_eq_getElem?_getD, List.getElem?_map, List.getElem?_range hi]; rfl
    rw [e]; exact h u) hs
structure PairMark (bs : Led) : Prop where
  ok : True
theorem ln_LawW_8 : True := by
  k_with "subscriptTail" => (k_here; (with_reducible show wpAny _ _ (subscriptTail _ _ (Value.ref _) (Value.int _ _)) _ _ _); (fail_if_success (rename DueItem _ _ _ => di9r31)); (fail_if_success (rename IsDictOf _ _ _ => di9r31)); (rename TupsIn _ _ _ => hT9r31); k_dflt (first | (refine' zs_item ?Nz9 ?lz9 ?Iz9 ?iz9 ?h4z9 ?_; (case Nz9 => k_asm); (case lz9 => k_mem); (case Iz9 => assumption); (case iz9 => assumption); (case h4z9 => omega); intro u') | (refine' tups_item ?Nz9 ?lz9 hT9r31 ?iz9 ?h4z9 ?_; (case Nz9 => k_asm); (case lz9 => k_mem); (case iz9 => assumption); (case h4z9 => omega); intro τ' oτ' hm' hx')))
  k_with "call ref" => (k_here; (with_reducible show wpAny _ _ (call (Value.ref 293) [Value.ref _, Value.str _ _]) _ _ _); k_dflt (refine' of_kind_l ?Bz9 ?Fz9 ?Xz9 ?offz9 ?Nz9 ?Tz9 ?Kz9 ?frz9 ?subz9 ?dz9 ?uz9 ?_; (case Bz9 => k_asm); (case Fz9 => k_asm); (case Xz9 => k_asm); (case offz9 => assumption); (case Nz9 => walk_at "nws"); (case Tz9 => k_asm); (case Kz9 => first | exact rfl | assumption); (case frz9 => assumption); (case subz9 => walk_at "upc"); (case dz9 => ktr_room); (case uz9 => ktr_units); k_whole); intro x' r' h' tk' up' of' fr' F' N'; (try k_sweep); (try dsimp only); (try k_fold))
  k_with "subl" => (intro p hp; (repeat (first | exact hp | refine List.Mem.tail _ ?_)))
  trivial
def RowX (rest : Led) (ml : Addr) (cps : List CDat) : Prop := ∃ vs nm, (ml, listOf (List.toArray vs) nm) ∈ rest ∧ Zip (MemAt rest) vs cps
section
variable {w : World} {A : Around} {E : Value → Shared → Prop} {s : Shared} {h₀ : Heap} {L src c1 c2 c3 : Addr} {l l' rest all : Led}
theorem row_slice {prog : Program} {value slice : Expr} {r : Addr} {f : FDat} {cps : List CDat} {m : Str → Option Value} {t : Tok} {Q : Value → Shared → Prop} (_off : OwnOff rest [src, c1, c2, c3]) (F : Fr h₀ L s.heap m) (N : News h₀ L s.heap all) (sub : ∀ p ∈ rest, p ∈ all) (h : RowAt l r f cps) (u : Up l rest)
    (k : ∀ D h' ml t2 t3 t4 t5, RowX rest ml cps → Fr h₀ L h' m → News h₀ L h' ((D, listOf #[.int f.p t2, .int f.h t3, .int f.w t4, .int f.n t5, .ref ml] 0) :: all) → (∀ p ∈ all, p.1 < D) → Q (.ref D) { s with heap := h' })
    (hs : subscripted slice false (.ref r) (.ref s.heap.objs.size) = operate [.ref s.heap.objs.size, .ref r] (getItem (.ref r) (.ref s.heap.objs.size))) (ht : ∀ q, letTemporaryGo value (.ref r) q = pure ()) :
    wpAny (model prog w) A (subscriptTail value slice (.ref r) (.ref s.heap.objs.size)) Q E { s with heap := s.heap.push { cls := .type "slice", data := .fields #[.int 1 t, .none, .none] } } := by
  obtain ⟨ml, t1, t2, t3, t4, t5, nr, nm, vs, a1, a2, Z⟩ := h.up u
  exact kmk_slice_lit (zs := [.int f.p t2, .int f.h t3, .int f.w t4, .int f.n t5, .ref ml]) F N (News.isList N (sub _ a1)) (.int _ _) .none (by rw [kmk_pick_nat (a := 1) (b := 6) _ rfl]; rfl) (fun D h' F' N' l1 => k D h' ml t2 t3 t4 t5 ⟨vs, nm, a2, Z⟩ F' N' l1) hs ht (Nat.le_of_ble_eq_true rfl)
theorem row_ne_x {prog : Program} {r b ml : Addr} {f : FDat} {k : Str} {cs : List CDat} {t1 t2 t3 t4 t5 : Tok} {nb : Nat} {Q : Value → Shared → Prop} (_off : OwnOff rest [src, c1, c2, c3]) (N : News h₀ L s.heap all) (sub : ∀ p ∈ rest, p ∈ all) (hb : (b, listOf #[.str k t1, .int f.p t2, .int f.h t3, .int f.w t4, .int f.n t5, .ref ml] nb) ∈ all) (h : RowAt l r { f with kind := k } cs) (u : Up l rest) (x : RowX l' ml cs) (u' : Up l' rest) (hu : A.units + 2 < cLine) (q : Q (.bool false) s) :
    wpAny (model prog w) A (compareOp .NotEq (.ref r) (.ref b)) Q E s := by
  obtain ⟨vs, nm, a, Z⟩ := x
  exact row_ne (N := all) N (fun _ h => h) ((h.up u).mono sub) ⟨ml, t1, t2, t3, t4, t5, nb, nm, vs, hb, sub _ (u' _ a nc_list), Z.imp fun _ _ hm => (hm.up u').mono sub⟩ hu q
end
theorem ln_LawW_9 : True := by
  k_with "subscriptTail Name Slice ref ref" => (k_here; k_dflt (refine' row_slice ?offz9 ?Fz9 ?Nz9 ?subz9 ?hz9 ?uz9 ?_ ?sz9 ?tz9; (case offz9 => assumption); (case Fz9 => k_asm); (case Nz9 => k_asm); (case subz9 => walk_at "subl"); (case hz9 => assumption); (case uz9 => walk_at "upc"); (case sz9 => with_unfolding_all rfl); (case tz9 => kmk_pure)); intro D' h' ml' t2' t3' t4' t5' rx' F' N' l1; (try k_sweep))
  k_with "compareOp NotEq ref ref" => (k_here; (with_reducible show wpAny _ _ (compareOp CmpOp.NotEq (Value.ref _) (Value.ref _)) _ _ _); (rename RowX _ _ _ => rx9r35); k_dflt (refine' row_ne_x ?offz9 ?Nz9 ?subz9 ?hbz9 ?hz9 ?uz9 rx9r35 ?u2z9 ?huz9 ?_; (case offz9 => assumption); (case Nz9 => k_asm); (case subz9 => walk_at "subl"); (case hbz9 => k_mem); (case hz9 => assumption); (case uz9 => walk_at "upc"); (case u2z9 => walk_at "upc"); (case huz9 => ktr_units)))
  k_with "call ref" => (k_here; (with_reducible show wpAny _ _ (call (Value.ref 359) [Value.ref _, Value.ref _]) _ _ _); k_dflt (refine' sett_l ?Bz9 ?Fz9 ?Xz9 ?offz9 ?Nz9 ?Tz9 ?Kz9 ?q1z9 ?q2z9 ?q3z9 ?Sz9 ?frz9 ?subz9 ?kdz9 ?idz9 ?h1z9 ?h4z9 ?dz9 ?uz9 ?_; (case Bz9 => k_asm); (case Fz9 => k_asm); (case Xz9 => k_asm); (case offz9 => assumption); (case Nz9 => walk_at "nws"); (case Tz9 => k_asm); (case Kz9 => first | exact rfl | assumption); (case q1z9 => k_ne); (case q2z9 => k_ne); (case q3z9 => k_ne); (case Sz9 => assumption); (case frz9 => assumption); (case subz9 => walk_at "upc"); (case kdz9 => assumption); (case idz9 => assumption); (case h1z9 => assumption); (case h4z9 => assumption); (case dz9 => ktr_room); (case uz9 => ktr_units); k_whole); intro o' h' tk' S' F' N'; (try k_sweep); (try dsimp only); (try k_fold))
  trivial

/-- names that stand already: the head makes no twin of that name (a twin of a long table takes megabytes) -/
theorem dummies : True := trivial
theorem main.tw10047389527955405517 : True := trivial
theorem main.tw10094358506670053839 : True := trivial
theorem main.tw10109504035899599181 : True := trivial
theorem main.tw10114013102757674387 : True := trivial
theorem main.tw10177057350305019805 : True := trivial
theorem main.tw10204856939554784155 : True := trivial
theorem main.tw10234815189450012239 : True := trivial
theorem main.tw10298723112805639129 : True := trivial
theorem main.tw10363585996791799541 : True := trivial
theorem main.tw10391951854915411234 : True := trivial
theorem main.tw1054321117371714560 : True := trivial
theorem main.tw10609540516017602915 : True := trivial
theorem main.tw10625486282989778954 : True := trivial
theorem main.tw10642606787283503386 : True := trivial
theorem main.tw10665089971535097683 : True := trivial
theorem main.tw10669944970481658594 : True := trivial
theorem main.tw10696097060367621018 : True := trivial
theorem main.tw10707853282979444102 : True := trivial
theorem main.tw10821422270917381399 : True := trivial
theorem main.tw10825838108423173272 : True := trivial
theorem main.tw10876375607700338302 : True := trivial
theorem main.tw10877679251791092727 : True := trivial
theorem main.tw10896356407431480244 : True := trivial
theorem main.tw10946644238470552705 : True := trivial
theorem main.tw1099256609624015869 : True := trivial
theorem main.tw11003572833241299968 : True := trivial
theorem main.tw11101190512080308003 : True := trivial
theorem main.tw11156056980113079860 : True := trivial
theorem main.tw11221353774195762014 : True := trivial
theorem main.tw11261727412033496967 : True := trivial
theorem main.tw11403851563620829512 : True := trivial
theorem main.tw11461230924637031220 : True := trivial
theorem main.tw11501822485730972192 : True := trivial
theorem main.tw11544348965984651327 : True := trivial
theorem main.tw1157997071576566072 : True := trivial
theorem main.tw11595355409239048105 : True := trivial
theorem main.tw11646826074482590764 : True := trivial
theorem main.tw11710404883906591787 : True := trivial
theorem main.tw11752208632293872130 : True := trivial
theorem main.tw11785714552879321826 : True := trivial
theorem main.tw1178595665728414349 : True := trivial
theorem main.tw11815829001073249272 : True := trivial
theorem main.tw11857135199678951331 : True := trivial
theorem main.tw11982392923317675503 : True := trivial
theorem main.tw12057704586751987240 : True := trivial
theorem main.tw12077450504624328385 : True := trivial
theorem main.tw12298629886278197574 : True := trivial
theorem main.tw12343854547171428336 : True := trivial
theorem main.tw12361340156312767134 : True := trivial
theorem main.tw1236483940969888574 : True := trivial
theorem main.tw12384058654508599807 : True := trivial
theorem main.tw12431731261707249289 : True := trivial
theorem main.tw12451923566104230752 : True := trivial
theorem main.tw12455012482086183272 : True := trivial
theorem main.tw12483276189755474720 : True := trivial
theorem main.tw12518504611687188807 : True := trivial
theorem main.tw12590340796369385619 : True := trivial
theorem main.tw12623159325031504133 : True := trivial
theorem main.tw12670839924663504800 : True := trivial
theorem main.tw1270039299266317192 : True := trivial
theorem main.tw12702744160499308131 : True := trivial
theorem main.tw12839114828313443825 : True := trivial
theorem main.tw12872379398031375081 : True := trivial
theorem main.tw12915833801598196605 : True := trivial
theorem main.tw1306636233014830658 : True := trivial
theorem main.tw13110577991587790113 : True := trivial
theorem main.tw13113777628852026922 : True := trivial
theorem main.tw13219505800766818778 : True := trivial
theorem main.tw13224007501803129859 : True := trivial
theorem main.tw13270728482189477470 : True := trivial
theorem main.tw13348322127785295214 : True := trivial
theorem main.tw13350764725976880583 : True := trivial
theorem main.tw13402765919934010277 : True := trivial
theorem main.tw13503263706703578961 : True := trivial
theorem main.tw13626721169425172152 : True := trivial
theorem main.tw13667920496262714385 : True := trivial
theorem main.tw13676971244355772609 : True := trivial
theorem main.tw13678406521842155018 : True := trivial
theorem main.tw13693970394777133609 : True := trivial
theorem main.tw13724616953566380437 : True := trivial
theorem main.tw13777938177461255882 : True := trivial
theorem main.tw13803360072150633466 : True := trivial
theorem main.tw13838900630717943254 : True := trivial
theorem main.tw13876859957761632879 : True := trivial
theorem main.tw13962693860625380366 : True := trivial
theorem main.tw14027531716089632829 : True := trivial
theorem main.tw14061640607465278742 : True := trivial
theorem main.tw1409966394225722968 : True := trivial
theorem main.tw14161005256144132680 : True := trivial
theorem main.tw14218914174604095658 : True := trivial
theorem main.tw1439166485080882 : True := trivial
theorem main.tw14439473939278146460 : True := trivial
theorem main.tw14539993770535171780 : True := trivial
theorem main.tw14635473669698735251 : True := trivial
theorem main.tw14646587721710459877 : True := trivial
theorem main.tw14662554035588321541 : True := trivial
theorem main.tw14672674291997333471 : True := trivial
theorem main.tw14722489848711283861 : True := trivial
theorem main.tw14759895335926876869 : True := trivial
theorem main.tw14771111431291430275 : True := trivial
theorem main.tw14793117695081215449 : True := trivial
theorem main.tw14907226015203709474 : True := trivial
theorem main.tw14909365282108701170 : True := trivial
theorem main.tw15017983477296125989 : True := trivial
theorem main.tw1504049600530537962 : True := trivial
theorem main.tw15079240505294077160 : True := trivial
theorem main.tw15131278010643852716 : True := trivial
theorem main.tw15270170921892066516 : True := trivial
theorem main.tw15365013842991253249 : True := trivial
theorem main.tw1545906260438175962 : True := trivial
theorem main.tw15467891735981029475 : True := trivial
theorem main.tw15491723280356408159 : True := trivial
theorem main.tw15514936471743626214 : True := trivial
theorem main.tw15554039934745177238 : True := trivial
theorem main.tw15595112118272840620 : True := trivial
theorem main.tw15624239662980076321 : True := trivial
theorem main.tw15643365686152983790 : True := trivial
theorem main.tw15651024617767166033 : True := trivial
theorem main.tw15734660467963936456 : True := trivial
theorem main.tw15768048840197415361 : True := trivial
theorem main.tw15803610866087392283 : True := trivial
theorem main.tw15806524323241146399 : True := trivial
theorem main.tw15822976107629697795 : True := trivial
theorem main.tw15984706205718930553 : True := trivial
theorem main.tw16008252555379753968 : True := trivial
theorem main.tw16008457594558532635 : True := trivial
theorem main.tw16035907590883218939 : True := trivial
theorem main.tw16046730324260685337 : True := trivial
theorem main.tw16049902774474827687 : True := trivial
theorem main.tw16058785470767179954 : True := trivial
theorem main.tw16102231251864390963 : True := trivial
theorem main.tw1615956725737779560 : True := trivial
theorem main.tw16187894506366716058 : True := trivial
theorem main.tw16193401482309157537 : True := trivial
theorem main.tw16251939892948500945 : True := trivial
theorem main.tw16320729459185622934 : True := trivial
theorem main.tw16356685582667847594 : True := trivial
theorem main.tw16452447596832230105 : True := trivial
theorem main.tw16572128252103988241 : True := trivial
theorem main.tw16629339528299215175 : True := trivial
theorem main.tw16721930046160240684 : True := trivial
theorem main.tw1677766988990989824 : True := trivial
theorem main.tw1678875084529416142 : True := trivial
theorem main.tw16819838333489098493 : True := trivial
theorem main.tw16826212616301561204 : True := trivial
theorem main.tw16832360635688203351 : True := trivial
theorem main.tw16922381011570985944 : True := trivial
theorem main.tw16923884221124529275 : True := trivial
theorem main.tw16950194794029067938 : True := trivial
theorem main.tw16952715711813285254 : True := trivial
theorem main.tw16965079339398995527 : True := trivial
theorem main.tw17052023290607921161 : True := trivial
theorem main.tw17057053908230417247 : True := trivial
theorem main.tw17091655785135471103 : True := trivial
theorem main.tw17118054049896295152 : True := trivial
theorem main.tw17146568849442343683 : True := trivial
theorem main.tw1714950047550659301 : True := trivial
theorem main.tw17223442867436993403 : True := trivial
theorem main.tw17236958762192778904 : True := trivial
theorem main.tw17292155258170135553 : True := trivial
theorem main.tw17297283025540448806 : True := trivial
theorem main.tw17336282652733537790 : True := trivial
theorem main.tw17353955331779342651 : True := trivial
theorem main.tw17402982504261768225 : True := trivial
theorem main.tw17450470499104002142 : True := trivial
theorem main.tw17477492558424962760 : True := trivial
theorem main.tw17510229520200029679 : True := trivial
theorem main.tw17561526911342447988 : True := trivial
theorem main.tw17679725944135375923 : True := trivial
theorem main.tw17715262827843222689 : True := trivial
theorem main.tw17725498274588495791 : True := trivial
theorem main.tw17737603089517620647 : True := trivial
theorem main.tw1778151581696382138 : True := trivial
theorem main.tw17974016328880235120 : True := trivial
theorem main.tw18134284020713443437 : True := trivial
theorem main.tw18218335207050127959 : True := trivial
theorem main.tw18284262389922463811 : True := trivial
theorem main.tw18302796317244248524 : True := trivial
theorem main.tw18315214858253571532 : True := trivial
theorem main.tw18325589031809861271 : True := trivial
theorem main.tw18332899500509843999 : True := trivial
theorem main.tw18403998269306519403 : True := trivial
theorem main.tw18421580907717582127 : True := trivial
theorem main.tw18431692314602308842 : True := trivial
theorem main.tw18442785490491869365 : True := trivial
theorem main.tw1850612553970854742 : True := trivial
theorem main.tw2007339730380871907 : True := trivial
theorem main.tw2076005067852994252 : True := trivial
theorem main.tw2190695567426971638 : True := trivial
theorem main.tw2195194259037543316 : True := trivial
theorem main.tw221909299271738847 : True := trivial
theorem main.tw223528310411579522 : True := trivial
theorem main.tw2238316416991798583 : True := trivial
theorem main.tw2524017781993486291 : True := trivial
theorem main.tw2566753976717531306 : True := trivial
theorem main.tw2583023086579268501 : True := trivial
theorem main.tw2647654807098235363 : True := trivial
theorem main.tw2649988979300443725 : True := trivial
theorem main.tw2702614204127132176 : True := trivial
theorem main.tw2724176850512262202 : True := trivial
theorem main.tw2729793432009153956 : True := trivial
theorem main.tw2759098988195820126 : True := trivial
theorem main.tw2821470743931037460 : True := trivial
theorem main.tw2852251193174398662 : True := trivial
theorem main.tw2895952525429962455 : True := trivial
theorem main.tw302440914744352476 : True := trivial
theorem main.tw3027586509356016917 : True := trivial
theorem main.tw3137596982192898869 : True := trivial
theorem main.tw31828345220925962 : True := trivial
theorem main.tw3234112476842188716 : True := trivial
theorem main.tw3299218664060906527 : True := trivial
theorem main.tw330327031418712150 : True := trivial
theorem main.tw3343439749351644125 : True := trivial
theorem main.tw341453280667917650 : True := trivial
theorem main.tw3466206800631347469 : True := trivial
theorem main.tw3491332818749588091 : True := trivial
theorem main.tw3549514262204291990 : True := trivial
theorem main.tw3557749057250611081 : True := trivial
theorem main.tw3562595001068472590 : True := trivial
theorem main.tw356595791356121970 : True := trivial
theorem main.tw3613476055612923068 : True := trivial
theorem main.tw3626430660855392483 : True := trivial
theorem main.tw3779293765908593550 : True := trivial
theorem main.tw3796207824708393856 : True := trivial
theorem main.tw3829396358689915599 : True := trivial
theorem main.tw3905226178654972811 : True := trivial
theorem main.tw3960113756560652017 : True := trivial
theorem main.tw4026956272090484662 : True := trivial
theorem main.tw4038153913678941442 : True := trivial
theorem main.tw4039676971129161736 : True := trivial
theorem main.tw4108550071563198673 : True := trivial
theorem main.tw4126091431370883743 : True := trivial
theorem main.tw4261964983698606537 : True := trivial
theorem main.tw4297412468100583042 : True := trivial
theorem main.tw4324958949535026087 : True := trivial
theorem main.tw4333880214566435006 : True := trivial
theorem main.tw4475767826048309731 : True := trivial
theorem main.tw4500915450034043215 : True := trivial
theorem main.tw451873465583785326 : True := trivial
theorem main.tw4582641712150720113 : True := trivial
theorem main.tw4605139254293405059 : True := trivial
theorem main.tw4637267157515435788 : True := trivial
theorem main.tw4651154628705390771 : True := trivial
theorem main.tw4681395471914393968 : True := trivial
theorem main.tw4775608329324902142 : True := trivial
theorem main.tw4829764242579402683 : True := trivial
theorem main.tw4900431672193113347 : True := trivial
theorem main.tw4990475226369331113 : True := trivial
theorem main.tw5061512775090418087 : True := trivial
theorem main.tw5084117380071580128 : True := trivial
theorem main.tw5102693214775723256 : True := trivial
theorem main.tw5127751686995613262 : True := trivial
theorem main.tw5203219222101121401 : True := trivial
theorem main.tw52199770228462824 : True := trivial
theorem main.tw5372645768047454471 : True := trivial
theorem main.tw5396188567872606041 : True := trivial
theorem main.tw5400957986263281647 : True := trivial
theorem main.tw5401703158475992631 : True := trivial
theorem main.tw5418533224930618480 : True := trivial
theorem main.tw5532463470591059822 : True := trivial
theorem main.tw5571399437266216444 : True := trivial
theorem main.tw5585478044538960755 : True := trivial
theorem main.tw5613160597433933154 : True := trivial
theorem main.tw5649967823195072380 : True := trivial
theorem main.tw5665735395497279834 : True := trivial
theorem main.tw587027183488705336 : True := trivial
theorem main.tw5871769198996169552 : True := trivial
theorem main.tw5995161000843957690 : True := trivial
theorem main.tw6044114016751833949 : True := trivial
theorem main.tw6053611964639427726 : True := trivial
theorem main.tw6112859857366181021 : True := trivial
theorem main.tw6161133996638707016 : True := trivial
theorem main.tw6162249291895867263 : True := trivial
theorem main.tw6222487380544312443 : True := trivial
theorem main.tw6361450105264607166 : True := trivial
theorem main.tw6459208003876673375 : True := trivial
theorem main.tw6466546260392847867 : True := trivial
theorem main.tw6508729118710982530 : True := trivial
theorem main.tw6511744376749373798 : True := trivial
theorem main.tw6545385358150927430 : True := trivial
theorem main.tw6557543464795787104 : True := trivial
theorem main.tw66260789543402106 : True := trivial
theorem main.tw6635558491612396129 : True := trivial
theorem main.tw6660377722381337597 : True := trivial
theorem main.tw6697339332421208802 : True := trivial
theorem main.tw6733737763892157800 : True := trivial
theorem main.tw6801380410627298636 : True := trivial
theorem main.tw6862492499505807319 : True := trivial
theorem main.tw6877560268529008848 : True := trivial
theorem main.tw6886502059237256666 : True := trivial
theorem main.tw7074144079889050967 : True := trivial
theorem main.tw7083192437325867461 : True := trivial
theorem main.tw7113585516715319716 : True := trivial
theorem main.tw7173623326730630234 : True := trivial
theorem main.tw7214478077546791972 : True := trivial
theorem main.tw7221758910455160077 : True := trivial
theorem main.tw7235775444256392728 : True := trivial
theorem main.tw7268301785047649679 : True := trivial
theorem main.tw7308723440029596264 : True := trivial
theorem main.tw73751810991705359 : True := trivial
theorem main.tw7439787175107056256 : True := trivial
theorem main.tw7590696779544312186 : True := trivial
theorem main.tw765107192605250810 : True := trivial
theorem main.tw7698036289167662538 : True := trivial
theorem main.tw7699798408344515789 : True := trivial
theorem main.tw7875838824674609581 : True := trivial
theorem main.tw8118072479153026202 : True := trivial
theorem main.tw8228058824784995430 : True := trivial
theorem main.tw832900586485598795 : True := trivial
theorem main.tw834873547066669988 : True := trivial
theorem main.tw8440099810896429113 : True := trivial
theorem main.tw8466321980469482115 : True := trivial
theorem main.tw8467378866343419333 : True := trivial
theorem main.tw8475525182357872103 : True := trivial
theorem main.tw8478376212529829071 : True := trivial
theorem main.tw8652556701797213591 : True := trivial
theorem main.tw8663697691656813868 : True := trivial
theorem main.tw8729708805864041840 : True := trivial
theorem main.tw8748973510418095054 : True := trivial
theorem main.tw8905464785575363620 : True := trivial
theorem main.tw8930851030842425676 : True := trivial
theorem main.tw8947760058931562597 : True := trivial
theorem main.tw9069182735580402390 : True := trivial
theorem main.tw9155575984036265788 : True := trivial
theorem main.tw9173930469540205349 : True := trivial
theorem main.tw9265829497004654079 : True := trivial
theorem main.tw9268297945177815525 : True := trivial
theorem main.tw9272984997812220495 : True := trivial
theorem main.tw9274054859765456524 : True := trivial
theorem main.tw9302470337196694018 : True := trivial
theorem main.tw9360745474812902239 : True := trivial
theorem main.tw9361300454564663673 : True := trivial
theorem main.tw9376054973815220883 : True := trivial
theorem main.tw9376575566392132001 : True := trivial
theorem main.tw9403896945662435723 : True := trivial
theorem main.tw9498315638749924794 : True := trivial
theorem main.tw9508770018378322450 : True := trivial
theorem main.tw9512817274939609580 : True := trivial
theorem main.tw9557352009045844224 : True := trivial
theorem main.tw9561784451562097942 : True := trivial
theorem main.tw9563168847844234846 : True := trivial
theorem main.tw962032349192862916 : True := trivial
theorem main.tw9656510801202774680 : True := trivial
theorem main.tw9670510015898674028 : True := trivial
theorem main.tw9682133043923132273 : True := trivial
theorem main.tw9730157408454304684 : True := trivial
theorem main.tw979501456738626862 : True := trivial
theorem main.tw9840939614602229412 : True := trivial
theorem main.tw9848185148710128376 : True := trivial
theorem main.tw9897820754763898449 : True := trivial
theorem main.tw9925469786538053656 : True := trivial
theorem main.tw9976160756891316704 : True := trivial
set_option Elab.async true in
set_option maxHeartbeats 8000000 in
theorem main : PySem.Challenge.rw_ok0144_01.Holds := by
  w_on; o_law; k_head; (case hw => w_witness2)
  show PySem.W.WalkO Mine.kv.view_1_2 _ _ (PySem.W.kHook Mine.kv.heap_1_1 _ _).says _ _ _ _
  k_go0
  (all_goals try k_fold)
  k_steps
end LawW
end Mine
theorem PySem.Challenge.cw_ok0144_01_holds : PySem.Challenge.rw_ok0144_01.Holds :=
  Mine.main
