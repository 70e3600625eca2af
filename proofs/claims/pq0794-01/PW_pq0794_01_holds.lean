import PyProof.Rows.All
import Wide.All
import OpenK.AllK
import Wide.FinOn
import Lean
import PySem.Challenge.RW_pq0794_01
open PySem PySem.W PySem.Spec PySem.Calls PyProof.Rows
set_option Elab.async false
set_option maxRecDepth 100000
set_option maxHeartbeats 8000000
set_option pp.deepTerms false
set_option pp.maxSteps 1000
set_option linter.all false
namespace Mine
section
local macro_rules | `(tactic| o_head $_) => `(tactic| assumption)
theorem mk (h : PySem.Challenge.rw_pq0794_01.row.Holds) : PySem.Challenge.rw_pq0794_01.row.Holds := by k_head
end
end Mine
namespace Mine
abbrev Led := List (Addr × Obj)
/-- the contract of a def of the text: called with vs over the ledger news it comes back with a value and a ledger of which P is so -/
def Ctr (w : World) (d : Nat) (f : Addr) (vs : List Value) (news : Led) (P : Value → Led → Prop) : Prop :=
  ∀ (p : Program) (loose : List Str) (mean : ExcName → Option Value) (mg mb : Str → Option Value) (dp un : Nat) (gd : Option (List Code)) (cn : Str) (cs : Scope) (a : Addr) (ccd : Value) (cl : List (Str × Addr)) (outer : List Env) (A₀ : Around) (base h₀ : Heap) (L : Addr) (m : Str → Option Value) (s : Shared) (Q E : Value → Shared → Prop),
    Below A₀ base outer h₀ → Fr h₀ L s.heap m → (Mine.mk.heap_1 w.params).In h₀ → News h₀ L s.heap news → Top p loose mean mg mb h₀ → cs.kind = .function → dp + d < recursionLimit → un + 8 * d < cLine →
    (∀ v news' h' tk', P v news' → Fr h₀ L h' m → News h₀ L h' news' → Q v { s with heap := h', toks := tk' }) →
    wpAny (model PySem.Challenge.rw_pq0794_01.row.prog w) (ktrTop dp un gd cn cs L a ccd cl outer) (call (.ref f) vs) Q E s
def IntP (r : Int) (news : Led) : Value → Led → Prop := fun v n' => (∃ t, v = .int r t) ∧ news = n'

def nth : List Value → Nat → Option Value
  | [], _ => none
  | v :: _, 0 => some v
  | _ :: r, n + 1 => nth r n
theorem nth_eq : ∀ (l : List Value) (n : Nat), nth l n = l[n]?
  | [], n => by simp [nth]
  | v :: r, 0 => by simp [nth]
  | v :: r, n + 1 => by simp [nth, nth_eq r n]
section
variable {prog : Program} {w : World} {A : Around} {E : Value → Shared → Prop} {s : Shared}
theorem fdiv_pos {a b : Int} {t u : Tok} {Q : Value → Shared → Prop} (hb : 0 < b) (hl : b.natAbs.log2 < 9000) (h : Q (.int (a / b) s.toks) { s with toks := s.toks + 1 }) : wpAny (model prog w) A (binaryOp .FloorDiv (.int a t) (.int b u)) Q E s :=
  floordiv_int (by omega) (by rw [Int.fdiv_eq_ediv_of_nonneg _ (by omega)]; exact h) (Or.inl (PyProof.noPylong_of_log2 hl))
theorem fmod_pos {a b : Int} {t u : Tok} {Q : Value → Shared → Prop} (hb : 0 < b) (h : Q (.int (a % b) s.toks) { s with toks := s.toks + 1 }) : wpAny (model prog w) A (binaryOp .Mod (.int a t) (.int b u)) Q E s :=
  mod_int' (by omega) (by first | exact h | (rw [Int.fmod_eq_emod_of_nonneg _ (by omega)]; exact h))
theorem item_at {h₀ : Heap} {L D : Addr} {news : Led} {its : Array Value} {n : Nat} {k : Int} {u : Tok} {v : Value} {value slice : PySem.Expr} {Q : Value → Shared → Prop} (N : News h₀ L s.heap news) (hm : (D, listOf its n) ∈ news)
    (h0 : 0 ≤ k) (h1 : k < 2 ^ 63) (hx : nth its.toList k.toNat = some v) (h : Q v s)
    (hs : subscripted slice false (.ref D) (.int k u) = operate [.ref D, .int k u] (getItem (.ref D) (.int k u)) := by with_unfolding_all rfl) :
    wpAny (model prog w) A (subscriptTail value slice (.ref D) (.int k u)) Q E s :=
  let hl : s.heap.IsList D its := PySem.IsL.isList (n := n) (N _ hm).1
  tail_any hl.typeIs slot_list_getitem.lookup (wpAny_getItem_list hl h0 h1 (by rw [nth_eq] at hx; simpa using hx) h) hs
end
theorem ifexp_int {M : Model} {A : Around} {E : Value → Shared → Prop} {s : Shared} {env : Env} {test : PySem.Expr} {x y : Int} {k l : Nat} {p q pos : Pos} {Q : Value → Shared → Prop}
    (h : wpAny M A (isTrue test env (eval test env)) (fun b s' => Q (.int (if b = true then x else y) s'.toks) { s' with toks := s'.toks + 1 }) E s) :
    wpAny M A (eval (.IfExp test (.Constant (.int x) k p) (.Constant (.int y) l q) pos) env) Q E s := by
  refine IfExp_ (wpAny_mono h (fun b s' h => ?_) fun _ _ h => h)
  cases b with
  | true => simp only [if_true] at h ⊢; exact wpAny_Constant_int h
  | false => simp only [Bool.false_eq_true, if_false] at h ⊢; exact wpAny_Constant_int h
end Mine
namespace Mine
section
variable {w : World} {d : Nat} {f : Addr} {vs : List Value} {news : Led} {P : Value → Led → Prop} {p : Program} {loose : List Str} {mean : ExcName → Option Value} {mg mb : Str → Option Value} {dp un : Nat} {gd : Option (List Code)} {cn : Str} {cs : Scope} {a : Addr} {ccd : Value} {cl : List (Str × Addr)} {outer : List Env} {A₀ : Around} {base h₀ : Heap} {L : Addr} {m : Str → Option Value} {s : Shared} {Q E : Value → Shared → Prop}
theorem use (C : Ctr w d f vs news P) (B : Below A₀ base outer h₀) (F : Fr h₀ L s.heap m) (X : (Mine.mk.heap_1 w.params).In h₀) (N : News h₀ L s.heap news) (T : Top p loose mean mg mb h₀) (hk : cs.kind = .function) (hd : dp + d < recursionLimit) (hu : un + 8 * d < cLine)
    (h : ∀ v news' h' tk', P v news' → Fr h₀ L h' m → News h₀ L h' news' → Q v { s with heap := h', toks := tk' }) :
    wpAny (model PySem.Challenge.rw_pq0794_01.row.prog w) (ktrTop dp un gd cn cs L a ccd cl outer) (call (.ref f) vs) Q E s :=
  C p loose mean mg mb dp un gd cn cs a ccd cl outer A₀ base h₀ L m s Q E B F X N T hk hd hu h
end
-- USE
theorem useInt {w : World} {d : Nat} {f : Addr} {vs : List Value} {news : Led} {p : Program} {loose : List Str} {mean : ExcName → Option Value} {mg mb : Str → Option Value} {dp un : Nat} {gd : Option (List Code)} {cn : Str} {cs : Scope} {a : Addr} {ccd : Value} {cl : List (Str × Addr)} {outer : List Env} {A₀ : Around} {base h₀ : Heap} {L : Addr} {m : Str → Option Value} {s : Shared} {Q E : Value → Shared → Prop} {r : Int} (C : Ctr w d f vs news (IntP r news)) (B : Below A₀ base outer h₀) (F : Fr h₀ L s.heap m) (X : (Mine.mk.heap_1 w.params).In h₀) (N : News h₀ L s.heap news) (T : Top p loose mean mg mb h₀) (hk : cs.kind = .function) (hd : dp + d < recursionLimit) (hu : un + 8 * d < cLine)
    (h : ∀ t h' tk', Fr h₀ L h' m → News h₀ L h' news → Q (.int r t) { s with heap := h', toks := tk' }) : wpAny (model PySem.Challenge.rw_pq0794_01.row.prog w) (ktrTop dp un gd cn cs L a ccd cl outer) (call (.ref f) vs) Q E s :=
  use C B F X N T hk hd hu (by rintro v n' h' tk' ⟨⟨t, rfl⟩, rfl⟩ F' N'; exact h t h' tk' F' N')
-- END USE
theorem ctr_mono {w : World} {k : Nat} {f : Addr} {vs : List Value} {news : Led} {P P' : Value → Led → Prop} (C : Ctr w k f vs news P) (h : ∀ v n', P v n' → P' v n') : Ctr w k f vs news P' :=
  fun p loose mean mg mb dp un gd cn cs a ccd cl outer A₀ base h₀ L m s Q E B F X N T hk hd hu hr => C p loose mean mg mb dp un gd cn cs a ccd cl outer A₀ base h₀ L m s Q E B F X N T hk hd hu fun v n' h' tk' hp => hr v n' h' tk' (h _ _ hp)
theorem ndrop {h₀ h : Heap} {L : Addr} {n n' : Led} (N : News h₀ L h n') (hs : ∀ p ∈ n, p ∈ n') : News h₀ L h n := fun p hp => N p (hs p hp)
theorem sub_tail {q : Addr × Obj} {n l : Led} (h : ∀ p ∈ n, p ∈ l) : ∀ p ∈ n, p ∈ q :: l := fun p hp => .tail _ (h p hp)
/-- a contract over one object told apart serves any ledger that bears it -/
theorem ctr_upd {w : World} {k : Nat} {f : Addr} {vs : List Value} {d : Addr} {o : Obj} {news : Led} {β : Type} {o' : β → Obj} {news' : β → Led} {R : Value → β → Prop} (U : ∀ x, Upd d o (o' x) news (news' x)) (hne : Nonempty β)
    (C : Ctr w k f vs ((d, o) :: news.filter (fun p => decide (p.1 ≠ d))) (fun v n' => ∃ x, R v x ∧ n' = (d, o' x) :: news.filter (fun p => decide (p.1 ≠ d)))) :
    Ctr w k f vs news (fun v n' => ∃ x, R v x ∧ n' = news' x) := by
  intro p loose mean mg mb dp un gd cn cs a ccd cl outer A₀ base h₀ L m s Q E B F X N T hk hd hu h
  refine C p loose mean mg mb dp un gd cn cs a ccd cl outer A₀ base h₀ L m s Q E B F X ?_ T hk hd hu ?_
  · obtain ⟨x⟩ := hne
    obtain ⟨pre, post, e, _, _, _⟩ := (U x).split
    intro q hq
    rcases List.mem_cons.mp hq with rfl | hq
    · exact N _ (by rw [e]; exact List.mem_append.mpr (.inr (.head _)))
    · exact N _ (List.mem_filter.mp hq).1
  · rintro v n' h' tk' ⟨x, hR, rfl⟩ F' N'
    refine h v (news' x) h' tk' ⟨x, hR, rfl⟩ F' ?_
    obtain ⟨pre, post, e, e', a1, a2⟩ := (U x).split
    intro q hq
    rw [e'] at hq
    have key : ∀ q, q ∈ news → q.1 ≠ d → q ∈ (d, o' x) :: news.filter (fun p => decide (p.1 ≠ d)) := fun q h1 h2 => List.mem_cons.mpr (.inr (List.mem_filter.mpr ⟨h1, by simpa using h2⟩))
    rcases List.mem_append.mp hq with hq | hq
    · exact N' _ (key q (by rw [e]; exact List.mem_append.mpr (.inl hq)) (a1 q hq))
    · rcases List.mem_cons.mp hq with rfl | hq
      · exact N' _ (.head _)
      · exact N' _ (key q (by rw [e]; exact List.mem_append.mpr (.inr (.tail _ hq))) (a2 q hq))
theorem filter_ne {d : Addr} {news : Led} : ∀ p ∈ news.filter (fun p => decide (p.1 ≠ d)), p.1 ≠ d := fun p h => by simpa using (List.mem_filter.mp h).2
end Mine
section
open Mine
local macro_rules | `(tactic| walk_at $s:str) => `(tactic| k_extra $s)
local macro_rules | `(tactic| k_all) => `(tactic| assumption)
local macro_rules | `(tactic| k_mem) => `(tactic| assumption)
local macro_rules | `(tactic| k_in) => `(tactic| exact Frag.In.keeps (by with_reducible assumption) (Fr.keep (by with_reducible assumption)))
namespace Mine
theorem rows : True := by
  k_with "call ref" => (k_here; (with_reducible show wpAny _ _ (PySem.call (Value.ref 68) _) _ _ _); (try dsimp only [List.nil_append, List.cons_append]); k_dflt (refine' useInt ?kC ?kB ?kF ?kX ?kN ?kT ?kK ?kd ?ku ?_; (case kN => k_asm); (case kC => (with_reducible_and_instances refine' mask_c ?c0 ?c1); (case c0 => first | assumption | decide | omega); (case c1 => first | assumption | decide | omega)); (case kB => k_asm); (case kF => k_asm); (case kX => k_asm); (case kT => k_asm); (case kK => first | exact rfl | assumption); (case kd => ktr_room); (case ku => ktr_units)); intro t9 h9 tk9 F9 N9; (try dsimp only); (try k_sweep))
  k_with "call ref" => (k_here; (with_reducible show wpAny _ _ (PySem.call (Value.ref 257) _) _ _ _); (try dsimp only [List.nil_append, List.cons_append]); k_dflt (refine' useInt ?kC ?kB ?kF ?kX ?kN ?kT ?kK ?kd ?ku ?_; (case kN => k_asm); (case kC => (with_reducible_and_instances refine' base_c )); (case kB => k_asm); (case kF => k_asm); (case kX => k_asm); (case kT => k_asm); (case kK => first | exact rfl | assumption); (case kd => ktr_room); (case ku => ktr_units)); intro t9 h9 tk9 F9 N9; (try dsimp only); (try k_sweep))
  k_with "call ref" => (k_here; (with_reducible show wpAny _ _ (PySem.call (Value.ref 82) _) _ _ _); (try dsimp only [List.nil_append, List.cons_append]); k_dflt (refine' useInt ?kC ?kB ?kF ?kX ?kN ?kT ?kK ?kd ?ku ?_; (case kN => k_asm); (case kC => (with_reducible_and_instances refine' bit_c ?c0 ?c1); (case c0 => first | assumption | decide | omega); (case c1 => first | assumption | decide | omega)); (case kB => k_asm); (case kF => k_asm); (case kX => k_asm); (case kT => k_asm); (case kK => first | exact rfl | assumption); (case kd => ktr_room); (case ku => ktr_units)); intro t9 h9 tk9 F9 N9; (try dsimp only); (try k_sweep))
  k_with "call ref" => (k_here; (with_reducible show wpAny _ _ (PySem.call (Value.ref 271) _) _ _ _); (try dsimp only [List.nil_append, List.cons_append]); k_dflt (refine' useTake ?kC ?kB ?kF ?kX ?kN ?kT ?kK ?kd ?ku ?_; (case kN => k_asm); (case kC => (with_reducible_and_instances refine' take_u ?U ?hp ?hc ?h0 ?hl); (case U => intro _ _ _ _ _ _; k_upd); (case hp => assumption); (case hc => first | assumption | decide | omega); (case h0 => first | assumption | decide | omega); (case hl => first | assumption | decide +kernel)); (case kB => k_asm); (case kF => k_asm); (case kX => k_asm); (case kT => k_asm); (case kK => first | exact rfl | assumption); (case kd => ktr_room); (case ku => ktr_units)); intro r9 st9 sd9 kk9 t9 ta9 tb9 tc9 h9 tk9 q9 q9' p9 F9 N9; (try dsimp only at N9); (try dsimp only); (try k_sweep))
  k_with "call ref" => (k_here; (with_reducible show wpAny _ _ (PySem.call (Value.ref 75) _) _ _ _); (try dsimp only [List.nil_append, List.cons_append]); k_dflt (refine' useInt ?kC ?kB ?kF ?kX ?kN ?kT ?kK ?kd ?ku ?_; (case kN => k_asm); (case kC => (with_reducible_and_instances refine' wrap_c ?c0 ?c1); (case c0 => first | assumption | decide | omega); (case c1 => first | assumption | decide | omega)); (case kB => k_asm); (case kF => k_asm); (case kX => k_asm); (case kT => k_asm); (case kK => first | exact rfl | assumption); (case kd => ktr_room); (case ku => ktr_units)); intro t9 h9 tk9 F9 N9; (try dsimp only); (try k_sweep))
  k_with "call ref" => (k_here; (with_reducible show wpAny _ _ (PySem.call (Value.ref 89) _) _ _ _); (try dsimp only [List.nil_append, List.cons_append]); k_dflt (refine' useInt ?kC ?kB ?kF ?kX ?kN ?kT ?kK ?kd ?ku ?_; (case kN => k_asm); (case kC => (with_reducible_and_instances refine' ones_c )); (case kB => k_asm); (case kF => k_asm); (case kX => k_asm); (case kT => k_asm); (case kK => first | exact rfl | assumption); (case kd => ktr_room); (case ku => ktr_units)); intro t9 h9 tk9 F9 N9; (try dsimp only); (try k_sweep))
  k_with "call ref" => (k_here; (with_reducible show wpAny _ _ (PySem.call (Value.ref 96) _) _ _ _); (try dsimp only [List.nil_append, List.cons_append]); k_dflt (refine' useInt ?kC ?kB ?kF ?kX ?kN ?kT ?kK ?kd ?ku ?_; (case kN => k_asm); (case kC => (with_reducible_and_instances refine' parity_c )); (case kB => k_asm); (case kF => k_asm); (case kX => k_asm); (case kT => k_asm); (case kK => first | exact rfl | assumption); (case kd => ktr_room); (case ku => ktr_units)); intro t9 h9 tk9 F9 N9; (try dsimp only); (try k_sweep))
  k_with "call ref" => (k_here; (with_reducible show wpAny _ _ (PySem.call (Value.ref 290) _) _ _ _); (try dsimp only [List.nil_append, List.cons_append]); k_dflt (refine' useInt ?kC ?kB ?kF ?kX ?kN ?kT ?kK ?kd ?ku ?_; (case kN => k_asm); (case kC => (with_reducible_and_instances refine' even_c )); (case kB => k_asm); (case kF => k_asm); (case kX => k_asm); (case kT => k_asm); (case kK => first | exact rfl | assumption); (case kd => ktr_room); (case ku => ktr_units)); intro t9 h9 tk9 F9 N9; (try dsimp only); (try k_sweep))
  k_with "call ref" => (k_here; (with_reducible show wpAny _ _ (PySem.call (Value.ref 208) _) _ _ _); (try dsimp only [List.nil_append, List.cons_append]); k_dflt (refine' useFlag ?kC ?kB ?kF ?kX ?kN ?kT ?kK ?kd ?ku ?_; (case kN => k_asm); (case kC => (with_reducible_and_instances refine' flag_u ?U (szp_c ?hm filter_ne ?c0 ?c1)); (case hm => refine' mem_filter ?m1 ?m2; (case m1 => k_mem); (case m2 => first | assumption | k_ne)); (case U => intro _ _ _ _ _ _ _; k_upd); (case c0 => first | assumption | decide | omega); (case c1 => first | assumption | decide | omega)); (case kB => k_asm); (case kF => k_asm); (case kX => k_asm); (case kT => k_asm); (case kK => first | exact rfl | assumption); (case kd => ktr_room); (case ku => ktr_units)); intro t9 ta9 tb9 tc9 td9 te9 tf9 tg9 h9 tk9 F9 N9; (try dsimp only at N9); (try dsimp only); (try k_sweep))
  k_with "call ref" => (k_here; (with_reducible show wpAny _ _ (PySem.call (Value.ref 215) _) _ _ _); (try dsimp only [List.nil_append, List.cons_append]); k_dflt (refine' useFlag ?kC ?kB ?kF ?kX ?kN ?kT ?kK ?kd ?ku ?_; (case kN => k_asm); (case kC => (with_reducible_and_instances refine' flag_u ?U (add_c ?hm filter_ne ?c0 ?c1 ?c2 ?c3)); (case hm => refine' mem_filter ?m1 ?m2; (case m1 => k_mem); (case m2 => first | assumption | k_ne)); (case U => intro _ _ _ _ _ _ _; k_upd); (case c0 => first | assumption | decide | omega); (case c1 => first | assumption | decide | omega); (case c2 => first | assumption | decide | omega); (case c3 => first | assumption | decide | omega)); (case kB => k_asm); (case kF => k_asm); (case kX => k_asm); (case kT => k_asm); (case kK => first | exact rfl | assumption); (case kd => ktr_room); (case ku => ktr_units)); intro t9 ta9 tb9 tc9 td9 te9 tf9 tg9 h9 tk9 F9 N9; (try dsimp only at N9); (try dsimp only); (try k_sweep))
  k_with "call ref" => (k_here; (with_reducible show wpAny _ _ (PySem.call (Value.ref 222) _) _ _ _); (try dsimp only [List.nil_append, List.cons_append]); k_dflt (refine' useFlag ?kC ?kB ?kF ?kX ?kN ?kT ?kK ?kd ?ku ?_; (case kN => k_asm); (case kC => (with_reducible_and_instances refine' flag_u ?U (sub_c ?hm filter_ne ?c0 ?c1 ?c2 ?c3)); (case hm => refine' mem_filter ?m1 ?m2; (case m1 => k_mem); (case m2 => first | assumption | k_ne)); (case U => intro _ _ _ _ _ _ _; k_upd); (case c0 => first | assumption | decide | omega); (case c1 => first | assumption | decide | omega); (case c2 => first | assumption | decide | omega); (case c3 => first | assumption | decide | omega)); (case kB => k_asm); (case kF => k_asm); (case kX => k_asm); (case kT => k_asm); (case kK => first | exact rfl | assumption); (case kd => ktr_room); (case ku => ktr_units)); intro t9 ta9 tb9 tc9 td9 te9 tf9 tg9 h9 tk9 F9 N9; (try dsimp only at N9); (try dsimp only); (try k_sweep))
  k_with "call ref" => (k_here; (with_reducible show wpAny _ _ (PySem.call (Value.ref 229) _) _ _ _); (try dsimp only [List.nil_append, List.cons_append]); k_dflt (refine' useFlag ?kC ?kB ?kF ?kX ?kN ?kT ?kK ?kd ?ku ?_; (case kN => k_asm); (case kC => (with_reducible_and_instances refine' flag_u ?U (logic_c ?hm filter_ne ?c0 ?c1)); (case hm => refine' mem_filter ?m1 ?m2; (case m1 => k_mem); (case m2 => first | assumption | k_ne)); (case U => intro _ _ _ _ _ _ _; k_upd); (case c0 => first | assumption | decide | omega); (case c1 => first | assumption | decide | omega)); (case kB => k_asm); (case kF => k_asm); (case kX => k_asm); (case kT => k_asm); (case kK => first | exact rfl | assumption); (case kd => ktr_room); (case ku => ktr_units)); intro t9 ta9 tb9 tc9 td9 te9 tf9 tg9 h9 tk9 F9 N9; (try dsimp only at N9); (try dsimp only); (try k_sweep))
  k_with "call ref" => (k_here; (with_reducible show wpAny _ _ (PySem.call (Value.ref 236) _) _ _ _); (try dsimp only [List.nil_append, List.cons_append]); k_dflt (refine' useFlag ?kC ?kB ?kF ?kX ?kN ?kT ?kK ?kd ?ku ?_; (case kN => k_asm); (case kC => (with_reducible_and_instances refine' flag_u ?U (inc_c ?hm filter_ne ?c0 ?c1)); (case hm => refine' mem_filter ?m1 ?m2; (case m1 => k_mem); (case m2 => first | assumption | k_ne)); (case U => intro _ _ _ _ _ _ _; k_upd); (case c0 => first | assumption | decide | omega); (case c1 => first | assumption | decide | omega)); (case kB => k_asm); (case kF => k_asm); (case kX => k_asm); (case kT => k_asm); (case kK => first | exact rfl | assumption); (case kd => ktr_room); (case ku => ktr_units)); intro t9 ta9 tb9 tc9 td9 te9 tf9 tg9 h9 tk9 F9 N9; (try dsimp only at N9); (try dsimp only); (try k_sweep))
  k_with "call ref" => (k_here; (with_reducible show wpAny _ _ (PySem.call (Value.ref 243) _) _ _ _); (try dsimp only [List.nil_append, List.cons_append]); k_dflt (refine' useFlag ?kC ?kB ?kF ?kX ?kN ?kT ?kK ?kd ?ku ?_; (case kN => k_asm); (case kC => (with_reducible_and_instances refine' flag_u ?U (dec_c ?hm filter_ne ?c0 ?c1)); (case hm => refine' mem_filter ?m1 ?m2; (case m1 => k_mem); (case m2 => first | assumption | k_ne)); (case U => intro _ _ _ _ _ _ _; k_upd); (case c0 => first | assumption | decide | omega); (case c1 => first | assumption | decide | omega)); (case kB => k_asm); (case kF => k_asm); (case kX => k_asm); (case kT => k_asm); (case kK => first | exact rfl | assumption); (case kd => ktr_room); (case ku => ktr_units)); intro t9 ta9 tb9 tc9 td9 te9 tf9 tg9 h9 tk9 F9 N9; (try dsimp only at N9); (try dsimp only); (try k_sweep))
  k_with "call ref" => (k_here; (with_reducible show wpAny _ _ (PySem.call (Value.ref 250) _) _ _ _); (try dsimp only [List.nil_append, List.cons_append]); k_dflt (refine' useFlag ?kC ?kB ?kF ?kX ?kN ?kT ?kK ?kd ?ku ?_; (case kN => k_asm); (case kC => (with_reducible_and_instances refine' flag_u ?U (neg_c ?hm filter_ne ?c0 ?c1)); (case hm => refine' mem_filter ?m1 ?m2; (case m1 => k_mem); (case m2 => first | assumption | k_ne)); (case U => intro _ _ _ _ _ _ _; k_upd); (case c0 => first | assumption | decide | omega); (case c1 => first | assumption | decide | omega)); (case kB => k_asm); (case kF => k_asm); (case kX => k_asm); (case kT => k_asm); (case kK => first | exact rfl | assumption); (case kd => ktr_room); (case ku => ktr_units)); intro t9 ta9 tb9 tc9 td9 te9 tf9 tg9 h9 tk9 F9 N9; (try dsimp only at N9); (try dsimp only); (try k_sweep))
  k_with "call ref" => (k_here; (with_reducible show wpAny _ _ (PySem.call (Value.ref 103) _) _ _ _); (try dsimp only [List.nil_append, List.cons_append]); k_dflt (refine' useStrs ?kC ?kB ?kF ?kX ?kN ?kT ?kK ?kd ?ku ?_; (case kN => k_asm); (case kC => (with_reducible_and_instances refine' cn_c )); (case kB => k_asm); (case kF => k_asm); (case kX => k_asm); (case kT => k_asm); (case kK => first | exact rfl | assumption); (case kd => ktr_room); (case ku => ktr_units)); intro D9 l9 h9 tk9 a9 s9 b9 F9 N9; (try k_lt b9); (try dsimp only); (try k_sweep))
  k_with "call ref" => (k_here; (with_reducible show wpAny _ _ (PySem.call (Value.ref 187) _) _ _ _); (try dsimp only [List.nil_append, List.cons_append]); k_dflt (refine' useInt ?kC ?kB ?kF ?kX ?kN ?kT ?kK ?kd ?ku ?_; (case kN => k_asm); (case kC => (with_reducible_and_instances refine' cnum_c ?c0); (case c0 => first | assumption | decide | omega)); (case kB => k_asm); (case kF => k_asm); (case kX => k_asm); (case kT => k_asm); (case kK => first | exact rfl | assumption); (case kd => ktr_room); (case ku => ktr_units)); intro t9 h9 tk9 F9 N9; (try dsimp only); (try k_sweep))
  k_with "call ref" => (k_here; (with_reducible show wpAny _ _ (PySem.call (Value.ref 194) _) _ _ _); (try dsimp only [List.nil_append, List.cons_append]); k_dflt (refine' useBool ?kC ?kB ?kF ?kX ?kN ?kT ?kK ?kd ?ku ?_; (case kN => k_asm); (case kC => (with_reducible_and_instances refine' hnum_c ?m1 ?m2); (case m1 => k_mem); (case m2 => k_mem)); (case kB => k_asm); (case kF => k_asm); (case kX => k_asm); (case kT => k_asm); (case kK => first | exact rfl | assumption); (case kd => ktr_room); (case ku => ktr_units)); intro h9 tk9 F9 N9; (try dsimp only); (try k_sweep))
  k_with "call ref" => (k_here; (with_reducible show wpAny _ _ (PySem.call (Value.ref 201) _) _ _ _); (try dsimp only [List.nil_append, List.cons_append]); k_dflt (refine' useBool ?kC ?kB ?kF ?kX ?kN ?kT ?kK ?kd ?ku ?_; (case kN => k_asm); (case kC => (with_reducible_and_instances refine' holds_c ?m1 ?m2 ?c0); (case m1 => k_mem); (case m2 => k_mem); (case c0 => first | assumption | decide | omega)); (case kB => k_asm); (case kF => k_asm); (case kX => k_asm); (case kT => k_asm); (case kK => first | exact rfl | assumption); (case kd => ktr_room); (case ku => ktr_units)); intro h9 tk9 F9 N9; (try dsimp only); (try k_sweep))
  k_with "call ref" => (k_here; (with_reducible show wpAny _ _ (PySem.call (Value.ref 285) _) _ _ _); (try dsimp only [List.nil_append, List.cons_append]); k_dflt (refine' useInt ?kC ?kB ?kF ?kX ?kN ?kT ?kK ?kd ?ku ?_; (case kN => k_asm); (case kC => (with_reducible_and_instances refine' signed_c ?c0 ?c1); (case c0 => first | assumption | decide | omega); (case c1 => first | assumption | decide | omega)); (case kB => k_asm); (case kF => k_asm); (case kX => k_asm); (case kT => k_asm); (case kK => first | exact rfl | assumption); (case kd => ktr_room); (case ku => ktr_units)); intro t9 h9 tk9 F9 N9; (try dsimp only); (try k_sweep))
  k_with "call ref" => (k_here; (with_reducible show wpAny _ _ (PySem.call (Value.ref 297) _) _ _ _); (try dsimp only [List.nil_append, List.cons_append]); k_dflt (refine' useDue ?kC ?kB ?kF ?kX ?kN ?kT ?kK ?kd ?ku ?_; (case kN => k_asm); (case kC => (with_reducible_and_instances refine' due_c ?c0 ?c1 ?c2 ?c3 ?c4 ?c5 ?c6 ?c7 ?c8); (case c0 => first | assumption | decide | omega); (case c1 => first | assumption | decide | omega); (case c2 => first | assumption | decide | omega); (case c3 => first | assumption | decide | omega); (case c4 => first | assumption | decide | omega); (case c5 => first | assumption | decide | omega); (case c6 => first | assumption | decide | omega); (case c7 => first | assumption | decide | omega); (case c8 => first | assumption | decide | omega)); (case kB => k_asm); (case kF => k_asm); (case kX => k_asm); (case kT => k_asm); (case kK => first | exact rfl | assumption); (case kd => ktr_room); (case ku => ktr_units)); intro Dd Dt ta9 tb9 tc9 td9 te9 tf9 tg9 h9 tk9 b9 b9' F9 N9; (try k_lt b9); (try k_lt2 b9'); (try dsimp only); (try k_sweep))
  k_with "call ref" => (k_here; (with_reducible show wpAny _ _ (PySem.call (Value.ref 302) _) _ _ _); (try dsimp only [List.nil_append, List.cons_append]); k_dflt (refine' useCond ?kC ?kB ?kF ?kX ?kN ?kT ?kK ?kd ?ku ?_; (case kN => k_asm); (case kC => (with_reducible_and_instances refine' cond_c ?c0 ?c1 ?c2 ?c3 ?c4); (case c0 => first | assumption | exact Int.emod_nonneg _ (Int.ne_of_gt (kbt_pos _))); (case c1 => first | assumption | exact Int.emod_lt_of_pos _ (kbt_pos _)); (case c2 => first | assumption | exact Int.emod_nonneg _ (Int.ne_of_gt (kbt_pos _))); (case c3 => first | assumption | exact Int.emod_lt_of_pos _ (kbt_pos _)); (case c4 => first | assumption | exact pow_le (And.right hz9z))); (case kB => k_asm); (case kF => k_asm); (case kX => k_asm); (case kT => k_asm); (case kK => first | exact rfl | assumption); (case kd => ktr_room); (case ku => ktr_units)); intro D9 zs9 h9 tk9 hz9 b9 F9 N9; (try k_lt b9); (try dsimp only); (try k_sweep))
  k_with "call ref" => (k_here; (with_reducible show wpAny _ _ (PySem.call (Value.ref 307) _) _ _ _); (try dsimp only [List.nil_append, List.cons_append]); k_dflt (refine' useJunk ?kC ?kB ?kF ?kX ?kN ?kT ?kK ?kd ?ku ?_; (case kN => k_asm); (case kC => (with_reducible_and_instances refine' junk_u ?U ?hp ?hc); (case U => intro _ _ _ _ _ _; k_upd); (case hp => assumption); (case hc => first | assumption | decide | omega)); (case kB => k_asm); (case kF => k_asm); (case kX => k_asm); (case kT => k_asm); (case kK => first | exact rfl | assumption); (case kd => ktr_room); (case ku => ktr_units)); intro TDj xj dj Dj κj r1 r2 r3 r4 r5 r6 r7 t1 t2 t3 t4 t5 t6 t7 st9 sd9 kk9 ta9 tb9 tc9 h9 tk9 hb9 hp9 l9 l9' l9'' a9 b9 F9 N9; (try dsimp only at N9); (try k_dflt (have z9 : ∀ p ∈ own9, p.1 ≠ dj := (fun p hp => Nat.ne_of_lt (a9 p (by repeat (first | exact hp | refine List.Mem.tail _ ?_)))))); (try k_lt a9); (try k_lt2 l9); (try k_lt2 l9'); (try k_lt2 l9''); (try simp only [LCg.Off1, and_true] at b9); (try dsimp only); (try k_sweep))
  k_with "call ref" => (k_here; (with_reducible show wpAny _ _ (PySem.call (Value.ref 278) _) _ _ _); (try dsimp only [List.nil_append, List.cons_append]); k_dflt (refine' useNum ?kC ?kB ?kF ?kX ?kN ?kT ?kK ?kd ?ku ?_; (case kN => k_asm); (case kC => (with_reducible_and_instances refine' number_u ?U ?hp ?hc ?h0 ?h1); (case U => intro _ _ _ _ _ _; k_upd); (case hp => assumption); (case hc => first | assumption | decide | omega); (case h0 => first | assumption | decide | omega); (case h1 => first | assumption | decide | omega)); (case kB => k_asm); (case kF => k_asm); (case kX => k_asm); (case kT => k_asm); (case kK => first | exact rfl | assumption); (case kd => ktr_room); (case ku => ktr_units)); intro r9 st9 sd9 kk9 t9 ta9 tb9 tc9 h9 tk9 p9 F9 N9; (try dsimp only at N9); (try dsimp only); (try k_sweep))
  k_with "call ref" => (k_here; (with_reducible show wpAny _ _ (PySem.call (Value.ref 124) _) _ _ _); (try dsimp only [List.nil_append, List.cons_append]); k_dflt (refine' useTold ?kC ?kB ?kF ?kX ?kN ?kT ?kK ?kd ?ku ?_; (case kN => k_asm); (case kC => (with_reducible_and_instances refine' told_c ?m1 ?m2); (case m1 => k_mem); (case m2 => k_mem)); (case kB => k_asm); (case kF => k_asm); (case kX => k_asm); (case kT => k_asm); (case kK => first | exact rfl | assumption); (case kd => ktr_room); (case ku => ktr_units)); intro T9 h9 tk9 a9 F9 N9; (try k_lt a9); (try dsimp only); (try k_sweep))
  k_with "call ref" => (k_here; (with_reducible show wpAny _ _ (PySem.call (Value.ref 59) _) _ _ _); (try dsimp only [List.nil_append, List.cons_append]); k_dflt (refine' useMach ?kC ?kB ?kF ?kX ?kN ?kT ?kK ?kd ?ku ?_; (case kN => k_asm); (case kC => (with_reducible_and_instances refine mach_c)); (case kB => k_asm); (case kF => k_asm); (case kX => k_asm); (case kT => k_asm); (case kK => first | exact rfl | assumption); (case kd => ktr_room); (case ku => ktr_units)); intro x9 tp9 D9 vs9 h9 tk9 q9 q9' F9 N9; (try dsimp only); (try k_sweep))
  k_with "call ref" => (k_here; (with_reducible show wpAny _ _ (PySem.call (Value.ref 314) _) _ _ _); (try dsimp only [List.nil_append, List.cons_append]); k_dflt (refine' useDeeds ?kC ?kB ?kF ?kX ?kN ?kT ?kK ?kd ?ku ?_; (case kN => k_asm); (case kC => (with_reducible_and_instances refine' deeds_u ?U ?c0 ?c1 ?c2 ?c3 ?hp ?hc); (case U => intro _ _ _ _ _ _; k_upd); (case hp => assumption); (case hc => first | assumption | decide | omega); (case c0 => first | assumption | decide | omega); (case c1 => first | assumption | decide | omega); (case c2 => first | assumption | decide | omega); (case c3 => first | assumption | decide | omega)); (case kB => k_asm); (case kF => k_asm); (case kX => k_asm); (case kT => k_asm); (case kK => first | exact rfl | assumption); (case kd => ktr_room); (case ku => ktr_units)); intro st9 sd9 kk9 ta9 tb9 tc9 h9 tk9 p9 F9 N9; (try dsimp only at N9); (try dsimp only); (try k_sweep))
  k_with "call ref" => (k_here; (with_reducible show wpAny _ _ (PySem.call (Value.ref 187) _) _ _ _); (try dsimp only [List.nil_append, List.cons_append]); k_dflt (refine' useR (cnumR_c ?hin) ?kB ?kF ?kX ?kN ?kT ?kK ?kd ?ku ?_; (case kN => k_asm); (case hin => first | assumption | exact near_of (n := 12) (by decide +kernel) rfl (by assumption) (by assumption)); (case kB => k_asm); (case kF => k_asm); (case kX => k_asm); (case kT => k_asm); (case kK => first | exact rfl | assumption); (case kd => ktr_room); (case ku => ktr_units)); intro e9 t9 ws9 G9 h9 tk9 FG9 R9 U9; (try dsimp only))
  k_with "call ref" => (k_here; (with_reducible show wpAny _ _ (PySem.call (Value.ref 159) _) _ _ _); (try dsimp only [List.nil_append, List.cons_append]); k_dflt (refine' useR (getR_c ?hin) ?kB ?kF ?kX ?kN ?kT ?kK ?kd ?ku ?_; (case kN => k_asm); (case hin => first | assumption | exact near_of (n := 12) (by decide +kernel) rfl (by assumption) (by assumption)); (case kB => k_asm); (case kF => k_asm); (case kX => k_asm); (case kT => k_asm); (case kK => first | exact rfl | assumption); (case kd => ktr_room); (case ku => ktr_units)); intro e9 t9 ws9 G9 h9 tk9 FG9 R9 U9; (try dsimp only))
  k_with "call ref" => (k_here; (with_reducible show wpAny _ _ (PySem.call (Value.ref 166) _) _ _ _); (try dsimp only [List.nil_append, List.cons_append]); k_dflt (refine' useR (putR_c ?hin) ?kB ?kF ?kX ?kN ?kT ?kK ?kd ?ku ?_; (case kN => k_asm); (case hin => first | assumption | exact near_of (n := 12) (by decide +kernel) rfl (by assumption) (by assumption)); (case kB => k_asm); (case kF => k_asm); (case kX => k_asm); (case kT => k_asm); (case kK => first | exact rfl | assumption); (case kd => ktr_room); (case ku => ktr_units)); intro e9 t9 ws9 G9 h9 tk9 FG9 R9 U9; (try dsimp only))
  k_with "call ref" => (k_here; (with_reducible show wpAny _ _ (PySem.call (Value.ref 201) _) _ _ _); (try dsimp only [List.nil_append, List.cons_append]); k_dflt (refine' useR (holdsR_c ?hin) ?kB ?kF ?kX ?kN ?kT ?kK ?kd ?ku ?_; (case kN => k_asm); (case hin => first | assumption | exact near_of (n := 12) (by decide +kernel) rfl (by assumption) (by assumption)); (case kB => k_asm); (case kF => k_asm); (case kX => k_asm); (case kT => k_asm); (case kK => first | exact rfl | assumption); (case kd => ktr_room); (case ku => ktr_units)); intro e9 t9 ws9 G9 h9 tk9 FG9 R9 U9; (try dsimp only))
  k_with "binaryOp FloorDiv int int" => (k_here; (with_reducible refine fdiv_pos ?fda ?fdb ?_); (case fda => first | assumption | decide); (case fdb => first | assumption | decide +kernel))
  k_with "binaryOp Mod int int" => (k_here; (with_reducible refine fmod_pos ?fma ?_); (case fma => first | assumption | decide))
  k_with "eval IfExp" => (k_here; with_reducible refine ifexp_int ?_)
  k_with "subscriptTail Name Constant ref int" => (k_here; (with_reducible show wpAny _ _ (subscriptTail _ _ (Value.ref _) (Value.int _ _)) _ _ _); k_dflt (refine' item_at ?iN ?im ?ia ?ib ?ix ?_ ?is; (case iN => k_asm); (case im => k_mem); (case ia => decide); (case ib => decide); (case ix => rfl); (case is => with_unfolding_all rfl); k_whole))
  k_with "subscriptTail" => (k_here; (with_reducible show wpAny _ _ (subscriptTail _ _ (Value.ref _) (Value.int (ite _ _ _) _)) _ _ _); k_dflt (refine' sub01 ?N ?m ?e ?_ ?s; (case N => k_asm); (case m => k_mem); (case e => assumption); (case s => with_unfolding_all rfl)); intro t9)
  k_with "call builtin:list.index" => (k_here; (with_reducible show wpAny _ _ (PySem.call (Value.builtin _) [Value.ref _, Value.str _ _]) _ _ _); k_dflt (refine' sindex ?N ?m ?i ?e ?z ?_; (case N => k_asm); (case m => k_mem); (case i => assumption); (case e => assumption); (case z => decide)))
  k_with "compareOp NotIn str ref" => (k_here; k_dflt (refine' notin_list_strs ?l ?i ?_; (case l => exact PySem.IsL.isList (n := 0) (News.get (by k_asm) (by k_mem))); (case i => assumption)))
  k_with "call builtin:str.split" => (k_here; (with_reducible show wpAny _ _ (PySem.call (Value.builtin "str.split") _) _ _ _); k_dflt (first | (refine KSpl.split1 (by k_asm) (by k_asm) (by decide) ?_ (by kspl_size)) | (refine KSpl.split0 (by k_asm) (by k_asm) ?_ (by kspl_size))); intro D' l' h' k' e' a' F' N' l1; (try k_lt l1); kspl_eval e'; rw [e'] at a'; (have s9 := strsAre_of_values l'); rw [a'] at s9)
  k_with "call builtin:str.split" => (k_here; (rename Txt.split _ _ = _ => hsp9); (with_reducible show wpAny _ _ (PySem.call (Value.builtin "str.split") _) _ _ _); k_dflt (refine KSpl.split1 (by k_asm) (by k_asm) (by decide) ?_ (by assumption)); intro D' l' h' k' e' a' F' N' l1; (try k_lt l1); rw [hsp9] at e')
  k_with "eval ListComp" => (k_here; (with_reducible show wpAny _ _ (PySem.eval (Expr.ListComp _ [⟨Expr.Tuple _ _ _, _, _, _⟩] _ _) _) _ _ _); k_dflt (refine' zip_comp (cl := []) ?a0 ?a1 ?a2 ?a3 ?a4 ?a5 ?a6 ?a7 ?a8 ?_ ?a9; (case a0 => k_asm); (case a1 => rfl); (case a2 => rfl); (case a3 => decide); (case a4 => rfl); (case a5 => decide); (case a6 => rfl); (case a7 => rfl); (case a8 => decide); (case a9 => intro _; rfl)))
  k_with "call type:zip" => (k_here; k_dflt (focus (refine' zip_strs ?z1 ?z2 ?z3 ?z4 ?z5 rows8 ?_ ?_; (case z1 => k_asm); (case z2 => k_asm); (case z3 => k_mem); (case z4 => k_mem); (case z5 => exact Nat.le_of_ble_eq_true rfl); (intro nm' t' c' p' q' hsp hnl; unfold ZTurn; intro s' R' C' oC' m' E' hC ha hb F' N'); rotate_left; (intro D' zs' h' tk' hz F' N' l1; (try k_lt l1)); rotate_right)))
  k_with "CompSrc" => (k_here; k_dflt (focus (refine LCg.CompSrc.range (by rfl) (by k_asm) (by k_asm) (by assumption) (by first | decide | rfl) (by first | rfl | decide) (by exact Nat.le_of_ble_eq_true rfl) ?_; intro g'; (refine' jk_rest ?j1 ?j2 ?j3 ?_ ?_; (case j1 => assumption); (case j2 => rfl); (case j3 => assumption); (intro c8 st8 sd8 kk8 ta8 tb8 tc8 v8 I' oI' C' oC' D' m' ys' h' tk' E' hp8 hc8 hC' hx' F' N' off' ne'; (have off8 := off'); (simp only [LCg.Off3] at off8); (obtain ⟨oa8, ob8, oc8⟩ := off8); (have off7 := off'); (clear off'); (with_reducible refine id ?_)); rotate_left; (intro r1 r2 r3 r4 r5 r6 r7 t1 t2 t3 t4 t5 t6 t7 st8 sd8 kk8 ta8 tb8 tc8 hb8 hp8); rotate_right))))
  k_with "CompEnd" => (k_here; (rename News _ _ _ _ => N8); (rename LCg.Off3 _ _ _ _ => o8); k_dflt (exact LCg.CompEnd.intro (by assumption) N8 _ (fun p hp => hp) o8 True.intro ⟨_, _, _, _, _, _, _, _, rfl, ⟨by assumption, by assumption⟩, by assumption, rfl⟩))
  k_with "call ref" => (k_here; (with_reducible show wpAny _ _ (PySem.call (Value.ref 176) _) _ _ _); (try dsimp only [List.nil_append, List.cons_append]); k_dflt (refine' call_cls ?k1 ?k2 ?k3 ?k4 ?k5 ?k6 ?_; (case k1 => k_asm); (case k2 => k_asm); (case k3 => k_asm); (case k4 => k_is); (case k5 => k_is); (case k6 => k_is); k_whole; intro x' d' h' F' N' l1 l2; (try k_lt l1); (try k_lt2 l2); (try k_sweep); (refine' code_def ?k1 ?k2 ?k3 ?k4 ?k5 ?kA ?kF ?kK ?k6 ?k7 ?k8 ?k9 ?kB ?_ ?c2 ?c3 ?c4 ?c5; (case kA => exact rfl); (case kF => exact rfl); (case kK => first | assumption | exact rfl); (case k1 => k_asm); (case k2 => k_asm); (case k3 => k_asm); (case k4 => k_asm); (case k5 => k_asm); (case k6 => k_is); (case k7 => k_is); (case k8 => ktr_room); (case k9 => exact BindsTo.of_eq rfl); (case c5 => decide); (case kB => exact locs rfl); (case c2 => exact rfl); (case c3 => exact rfl); (case c4 => exact rfl); k_whole; intro g' L' h' FG' F' N' B' X' T'; (try dsimp only); (try k_fold))))
  k_with "binaryOp LShift int int" => (k_here; (with_reducible refine shl_one ?kb1 ?kb2 ?_); (case kb1 => first | assumption | decide | omega); (case kb2 => first | assumption | decide | omega))
  k_with "compareOp NotEq int int" => (k_here; (with_reducible refine ne_self ?_))
  k_with "compareOp Eq int int" => (k_here; (with_reducible show wpAny _ _ (compareOp _ (Value.int (-1) _) _) _ _ _); with_reducible refine eq_m1 ?_)
  k_with "binaryOp Mult int int" => (k_here; (rename PInv _ _ => pI9); (have pI8 := pmul pI9 (by omega)); with_reducible refine mul_int ?_ pI8)
  k_with "getMethod" => (k_here; (with_reducible show wpAny _ _ (getMethod (Value.type "Exception") _ _) _ _ _); k_dflt (refine' method_type ?F ?X ?t ?s ?e ?q ?_; (case F => k_asm); (case X => k_asm); (case t => first | rfl | kernel_rfl); (case s => decide +kernel); (case e => k_is); (case q => rfl)))
  k_with "call builtin:Exception.__init__" => (k_here; k_dflt (refine' exc_init ?F ?N ?X ?U ?z ?_; (case F => k_asm); (case N => k_asm); (case X => k_asm); (case U => intro _; k_upd); (case z => exact Nat.le_of_ble_eq_true rfl)); intro tp9 h9 F9 N9 l9; (have q8 := fun p hp => Nat.ne_of_lt (l9 p (.tail _ (.tail _ hp)))); (try k_lt l9))
  k_with "setAttr ref" => (k_here; k_dflt (refine' x_set0 ?F ?N ?X ?U ?n ?e ?_; (case F => k_asm); (case N => k_asm); (case X => k_asm); (case U => intro _; k_upd); (case n => k_is); (case e => intro _; kernel_rfl); intro D9 h9 tk9 F9 N9 l9; (have q9 := fun p hp => Nat.ne_of_lt (l9 p (.tail _ (.tail _ (.tail _ hp))))); (try k_lt l9)))
  k_with "setAttr ref" => (k_here; (with_reducible show wpAny _ _ (setAttr _ _ Value.none) _ _ _); k_dflt (refine' x_set1 ?F ?N ?X ?m ?U ?n ?l ?z ?e ?_; (case F => k_asm); (case N => k_asm); (case X => k_asm); (case m => k_mem); (case e => intro _; kernel_rfl); (case U => intro _; k_upd); (case n => k_is); (case l => rfl); (case z => exact Nat.le_of_ble_eq_true rfl); intro h9 tk9 F9 N9))
  k_with "exec Raise some none" => (k_here; k_dflt (refine' raise59 ?hh ?_; (case hh => rfl)))
  k_with "RaiseBack" => (k_here; k_dflt (refine ⟨_, _, _, _, rfl, Frag.In.keeps (by assumption) (Fr.keep (by k_asm)) _ _ rfl, (News.get (by k_asm) (.head _)), rfl, ?_⟩))
  k_with "execs cons" => (k_here; (with_reducible show wpAny _ _ (execs (Stmt.Assign _ _ ⟨208, _, _, _⟩ :: _) _) _ _ _); clear M208; (rename News _ _ _ _ => N9); k_dflt (have N8 := keep4 (a := xj) (b := dj) (c := Dj) (d := pa) N9 (by k_mem) (by k_mem) (by k_mem) (by k_mem)); clear N9; walk_say "CUT208")
  k_with "execs cons" => (k_here; (with_reducible show wpAny _ _ (execs (Stmt.Assign _ _ ⟨211, _, _, _⟩ :: _) _) _ _ _); clear M211; (rename News _ _ _ _ => N9); k_dflt (have N8 := keep4 (a := xj) (b := dj) (c := Dj) (d := pa) N9 (by k_mem) (by k_mem) (by k_mem) (by k_mem)); clear N9; walk_say "CUT211")
  k_with "execs cons" => (k_here; (with_reducible show wpAny _ _ (execs (Stmt.For _ _ _ _ ⟨214, _, _, _⟩ :: _) _) _ _ _); clear M214; (generalize Dd = Dk at *); (rename News _ _ _ _ => N9); k_dflt (have N8 := keep4 (a := xj) (b := dj) (c := Dj) (d := pa) N9 (by k_mem) (by k_mem) (by k_mem) (by k_mem)); k_dflt (replace N8 := keep1 (a := Dk) N9 N8 (by k_mem)); clear N9; walk_say "CUT214")
  k_with "execs cons" => (k_here; (with_reducible show wpAny _ _ (execs (Stmt.If _ _ _ ⟨218, _, _, _⟩ :: _) _) _ _ _); clear M218; (rename News _ _ _ _ => N9); k_dflt (have N8 := keep4 (a := xj) (b := dj) (c := Dj) (d := pa) N9 (by k_mem) (by k_mem) (by k_mem) (by k_mem)); k_dflt (replace N8 := keep1 (a := Dk) N9 N8 (by k_mem)); k_dflt (replace N8 := keep1 (a := Dd) N9 N8 (by k_mem)); clear N9; walk_say "CUT218")
  k_with "execs cons" => (k_here; (with_reducible show wpAny _ _ (execs (Stmt.Assign _ _ ⟨220, _, _, _⟩ :: _) _) _ _ _); clear M220; (rename News _ _ _ _ => N9); k_dflt (have N8 := keep4 (a := xj) (b := dj) (c := Dj) (d := pa) N9 (by k_mem) (by k_mem) (by k_mem) (by k_mem)); clear N9; walk_say "CUT220")
  k_with "execs cons" => (k_here; (with_reducible show wpAny _ _ (execs (Stmt.Assign _ _ ⟨223, _, _, _⟩ :: _) _) _ _ _); clear M223; (rename News _ _ _ _ => N9); k_dflt (have N8 := keep4 (a := xj) (b := dj) (c := Dj) (d := pa) N9 (by k_mem) (by k_mem) (by k_mem) (by k_mem)); k_dflt (replace N8 := keep1 (a := Dd) N9 N8 (by k_mem)); clear N9; walk_say "CUT223")
  trivial
end Mine
namespace Mine
abbrev penO (st sd kk : Int) (ta tb tc : Tok) : Obj := listOf #[.int st ta, .int sd tb, .int kk tc] 0
def PenOk (c st sd kk : Int) : Prop := 0 ≤ st ∧ 0 ≤ sd ∧ sd < 2147483647 ∧ 0 ≤ kk ∧ kk ≤ c
def TakeP (many c : Int) (pa : Addr) (rest : Led) : Value → Led → Prop := fun v n' => ∃ r st sd kk t ta tb tc, v = .int r t ∧ 0 ≤ r ∧ r < many ∧ PenOk (c + 1) st sd kk ∧ n' = (pa, penO st sd kk ta tb tc) :: rest
theorem take_c {w : World} {many : Int} {tm : Tok} {st sd kk c : Int} {ta tb tc : Tok} {pa : Addr} {rest : Led} (h0 : 0 < many) (hl : many.natAbs.log2 < 9000) (hp : PenOk c st sd kk) (hc : c ≤ 1000) (hr : ∀ p ∈ rest, p.1 ≠ pa) :
    Ctr w 1 271 [.ref pa, .int many tm] ((pa, penO st sd kk ta tb tc) :: rest) (TakeP many c pa rest) := by
  unfold Ctr
  k_fill
  intro p loose mean mg mb dp un gd cn cs a ccd cl outer A₀ base h₀ L m s Q E B F X N T hk hd hu hret
  refine wpAny_call ?_
  k_dflt ktr_enter
  obtain ⟨p1, p2, p3, p4, p5⟩ := hp
  k_steps
  all_goals (refine hret _ _ _ _ ?_ (by k_asm) (by k_asm); refine ⟨_, _, _, _, _, _, _, _, rfl, ?_, ?_, ?_, rfl⟩)
  · exact Int.emod_nonneg _ (by omega)
  · exact Int.emod_lt_of_pos _ h0
  · exact ⟨Int.ediv_nonneg p1 (by omega), p2, p3, p4, by omega⟩
  · exact Int.emod_nonneg _ (by omega)
  · exact Int.emod_lt_of_pos _ h0
  · exact ⟨p1, Int.emod_nonneg _ (by decide), Int.emod_lt_of_pos _ (by decide), by omega, by omega⟩
end Mine
namespace Mine
def TakeU (many c : Int) (news' : Int → Int → Int → Tok → Tok → Tok → Led) : Value → Led → Prop := fun v n' => ∃ r st sd kk t ta tb tc, v = .int r t ∧ 0 ≤ r ∧ r < many ∧ PenOk (c + 1) st sd kk ∧ n' = news' st sd kk ta tb tc
-- USE
theorem useTake {w : World} {d : Nat} {f : Addr} {vs : List Value} {news : Led} {p : Program} {loose : List Str} {mean : ExcName → Option Value} {mg mb : Str → Option Value} {dp un : Nat} {gd : Option (List Code)} {cn : Str} {cs : Scope} {a : Addr} {ccd : Value} {cl : List (Str × Addr)} {outer : List Env} {A₀ : Around} {base h₀ : Heap} {L : Addr} {m : Str → Option Value} {s : Shared} {Q E : Value → Shared → Prop} {many c : Int} {news' : Int → Int → Int → Tok → Tok → Tok → Led} (C : Ctr w d f vs news (TakeU many c news')) (B : Below A₀ base outer h₀) (F : Fr h₀ L s.heap m) (X : (Mine.mk.heap_1 w.params).In h₀) (N : News h₀ L s.heap news) (T : Top p loose mean mg mb h₀) (hk : cs.kind = .function) (hd : dp + d < recursionLimit) (hu : un + 8 * d < cLine)
    (h : ∀ r st sd kk t ta tb tc h' tk', 0 ≤ r → r < many → PenOk (c + 1) st sd kk → Fr h₀ L h' m → News h₀ L h' (news' st sd kk ta tb tc) → Q (.int r t) { s with heap := h', toks := tk' }) : wpAny (model PySem.Challenge.rw_pq0794_01.row.prog w) (ktrTop dp un gd cn cs L a ccd cl outer) (call (.ref f) vs) Q E s :=
  use C B F X N T hk hd hu (by rintro v n' h' tk' ⟨r, st, sd, kk, t, ta, tb, tc, rfl, q1, q2, q3, rfl⟩ F' N'; exact h r st sd kk t ta tb tc h' tk' q1 q2 q3 F' N')
-- END USE
theorem take_u {w : World} {many : Int} {tm : Tok} {st sd kk c : Int} {ta tb tc : Tok} {pa : Addr} {news : Led} {news' : Int → Int → Int → Tok → Tok → Tok → Led}
    (U : ∀ st' sd' kk' ta' tb' tc', Upd pa (penO st sd kk ta tb tc) (penO st' sd' kk' ta' tb' tc') news (news' st' sd' kk' ta' tb' tc'))
    (hp : PenOk c st sd kk) (hc : c ≤ 1000) (h0 : 0 < many) (hl : many.natAbs.log2 < 9000) : Ctr w 1 271 [.ref pa, .int many tm] news (TakeU many c news') := by
  have C := take_c (w := w) (tm := tm) (ta := ta) (tb := tb) (tc := tc) (pa := pa) h0 hl hp hc (filter_ne (news := news))
  have D := ctr_upd (w := w) (k := 1) (f := 271) (vs := [.ref pa, .int many tm]) (β := (Int × Int × Int) × (Tok × Tok × Tok)) (o := penO st sd kk ta tb tc) (o' := fun x => penO x.1.1 x.1.2.1 x.1.2.2 x.2.1 x.2.2.1 x.2.2.2) (news' := fun x => news' x.1.1 x.1.2.1 x.1.2.2 x.2.1 x.2.2.1 x.2.2.2) (R := fun v x => ∃ r t, v = .int r t ∧ 0 ≤ r ∧ r < many ∧ PenOk (c + 1) x.1.1 x.1.2.1 x.1.2.2) (fun x => U _ _ _ _ _ _) ⟨((0, 0, 0), (0, 0, 0))⟩
    (ctr_mono C (by rintro v n' ⟨r, st', sd', kk', t, ta', tb', tc', e, q1, q2, q3, e'⟩; exact ⟨((st', sd', kk'), (ta', tb', tc')), ⟨r, t, e, q1, q2, q3⟩, e'⟩))
  exact ctr_mono D (by rintro v n' ⟨⟨⟨st', sd', kk'⟩, ta', tb', tc'⟩, ⟨r, t, e, q1, q2, q3⟩, e'⟩; exact ⟨r, st', sd', kk', t, ta', tb', tc', e, q1, q2, q3, e'⟩)
theorem mask_c {w : World} {size : Int} {t : Tok} {news : Led} (h0 : 0 ≤ size) (h1 : size ≤ 64) :
    Ctr w 1 68 [.int size t] news (IntP (2 ^ size.toNat - 1) news) := by
  unfold Ctr
  k_fill
  intro p loose mean mg mb dp un gd cn cs a ccd cl outer A₀ base h₀ L m s Q E B F X N T hk hd hu hret
  refine wpAny_call ?_
  k_dflt ktr_enter
  k_steps
  rw [Int.one_mul]
  exact hret _ _ _ _ ⟨⟨_, rfl⟩, rfl⟩ (by k_asm) (by k_asm)
theorem base_c {w : World} {news : Led} : Ctr w 1 257 [] news (IntP (10 ^ 30 + 57) news) := by
  unfold Ctr
  k_fill
  intro p loose mean mg mb dp un gd cn cs a ccd cl outer A₀ base h₀ L m s Q E B F X N T hk hd hu hret
  refine wpAny_call ?_
  k_dflt ktr_enter
  k_steps
  exact hret _ _ _ _ ⟨⟨_, rfl⟩, rfl⟩ (by k_asm) (by k_asm)
theorem bit_c {w : World} {x n : Int} {tx tn : Tok} {news : Led} (h0 : 0 ≤ n) (h1 : n ≤ 64) :
    Ctr w 1 82 [.int x tx, .int n tn] news (IntP (x / 2 ^ n.toNat % 2) news) := by
  unfold Ctr
  k_fill
  intro p loose mean mg mb dp un gd cn cs a ccd cl outer A₀ base h₀ L m s Q E B F X N T hk hd hu hret
  refine wpAny_call ?_
  k_dflt ktr_enter
  k_steps
  rw [bitAnd_m1, Int.fdiv_eq_ediv_of_nonneg _ (Int.le_of_lt (kbt_pos _))]
  exact hret _ _ _ _ ⟨⟨_, rfl⟩, rfl⟩ (by k_asm) (by k_asm)
end Mine
namespace Mine
theorem wrap_c {w : World} {x size : Int} {tx ts : Tok} {news : Led} (h0 : 0 ≤ size) (h1 : size ≤ 64) :
    Ctr w 2 75 [.int x tx, .int size ts] news (IntP (x % 2 ^ size.toNat) news) := by
  unfold Ctr
  k_fill
  intro p loose mean mg mb dp un gd cn cs a ccd cl outer A₀ base h₀ L m s Q E B F X N T hk hd hu hret
  refine wpAny_call ?_
  k_dflt ktr_enter
  k_steps
  rw [kbt_mask]
  exact hret _ _ _ _ ⟨⟨_, rfl⟩, rfl⟩ (by k_asm) (by k_asm)
end Mine
namespace Mine
def pop (x : Int) : Int := x % 2 + x / 2 % 2 + x / 4 % 2 + x / 8 % 2 + x / 16 % 2 + x / 32 % 2 + x / 64 % 2 + x / 128 % 2
theorem pop_all : ∀ n : Nat, n < 256 → 0 < n → (0 ≤ Builtin.bitAnd (n : Int) ((n : Int) - 1) ∧ Builtin.bitAnd (n : Int) ((n : Int) - 1) < (n : Int) ∧ pop (Builtin.bitAnd (n : Int) ((n : Int) - 1)) + 1 = pop (n : Int)) := by decide +kernel
theorem pop_step {r : Int} (h0 : 0 < r) (h1 : r < 256) : 0 ≤ Builtin.bitAnd r (r - 1) ∧ Builtin.bitAnd r (r - 1) < r ∧ pop (Builtin.bitAnd r (r - 1)) + 1 = pop r := by
  have h := pop_all r.toNat (by omega) (by omega)
  rw [Int.toNat_of_nonneg (by omega)] at h
  exact h
def OnesW (x r c : Int) : Prop := 0 ≤ r ∧ r < 256 ∧ 0 ≤ c ∧ c + r ≤ 256 ∧ c + pop r = pop (x % 256)
theorem ones_start (x : Int) : OnesW x (x % 256) 0 := by
  refine ⟨by omega, by omega, by omega, by omega, ?_⟩
  rw [Int.zero_add]
theorem ones_turn {x r c : Int} (h : OnesW x r c) (hr : 0 < r) : OnesW x (Builtin.bitAnd r (r - 1)) (c + 1) := by
  obtain ⟨a1, a2, a3, a4, a5⟩ := h
  obtain ⟨b1, b2, b3⟩ := pop_step hr a2
  exact ⟨b1, by omega, by omega, by omega, by omega⟩
theorem ones_less {r : Int} {x c : Int} (h : OnesW x r c) (hr : 0 < r) : (Builtin.bitAnd r (r - 1)).toNat < r.toNat := by
  obtain ⟨b1, b2, b3⟩ := pop_step hr h.2.1
  omega
theorem ones_end {x r c : Int} (h : OnesW x r c) (hr : ¬ 0 < r) : c = pop (x % 256) := by
  obtain ⟨a1, a2, a3, a4, a5⟩ := h
  have : r = 0 := by omega
  subst this
  have : pop 0 = 0 := by decide
  omega
theorem ones_c {w : World} {x : Int} {tx ts : Tok} {news : Led} :
    Ctr w 3 89 [.int x tx, .int 8 ts] news (IntP (pop (x % 256)) news) := by
  unfold Ctr
  k_fill
  intro p loose mean mg mb dp un gd cn cs a ccd cl outer A₀ base h₀ L m s Q E B F X N T hk hd hu hret
  refine wpAny_call ?_
  k_dflt ktr_enter
  k_with "exec While Compare cons nil" => k_while (fun _ r c => OnesW x r c) (fun _ r _ => r.toNat) "rest" "count"
  k_with "state" => first | exact ones_start x | exact ones_turn (by assumption) (by assumption)
  k_with "measure" => exact ones_less (by assumption) (by assumption)
  k_steps
  (rename OnesW _ _ _ => hW)
  (rename ¬ _ < _ => hn)
  rw [ones_end hW hn]
  exact hret _ _ _ _ ⟨⟨_, rfl⟩, rfl⟩ (by k_asm) (by k_asm)
end Mine
namespace Mine
theorem rows05 : True := by
  k_with_none
  k_with "call ref" => (k_here; (with_reducible show wpAny _ _ (PySem.call (Value.ref 68) _) _ _ _); (try dsimp only [List.nil_append, List.cons_append]); k_dflt (refine' useInt ?kC ?kB ?kF ?kX ?kN ?kT ?kK ?kd ?ku ?_; (case kN => k_asm); (case kC => (with_reducible_and_instances refine' mask_c ?c0 ?c1); (case c0 => first | assumption | decide | omega); (case c1 => first | assumption | decide | omega)); (case kB => k_asm); (case kF => k_asm); (case kX => k_asm); (case kT => k_asm); (case kK => first | exact rfl | assumption); (case kd => ktr_room); (case ku => ktr_units)); intro t9 h9 tk9 F9 N9; (try dsimp only); (try k_sweep))
  k_with "call ref" => (k_here; (with_reducible show wpAny _ _ (PySem.call (Value.ref 257) _) _ _ _); (try dsimp only [List.nil_append, List.cons_append]); k_dflt (refine' useInt ?kC ?kB ?kF ?kX ?kN ?kT ?kK ?kd ?ku ?_; (case kN => k_asm); (case kC => (with_reducible_and_instances refine' base_c )); (case kB => k_asm); (case kF => k_asm); (case kX => k_asm); (case kT => k_asm); (case kK => first | exact rfl | assumption); (case kd => ktr_room); (case ku => ktr_units)); intro t9 h9 tk9 F9 N9; (try dsimp only); (try k_sweep))
  k_with "call ref" => (k_here; (with_reducible show wpAny _ _ (PySem.call (Value.ref 82) _) _ _ _); (try dsimp only [List.nil_append, List.cons_append]); k_dflt (refine' useInt ?kC ?kB ?kF ?kX ?kN ?kT ?kK ?kd ?ku ?_; (case kN => k_asm); (case kC => (with_reducible_and_instances refine' bit_c ?c0 ?c1); (case c0 => first | assumption | decide | omega); (case c1 => first | assumption | decide | omega)); (case kB => k_asm); (case kF => k_asm); (case kX => k_asm); (case kT => k_asm); (case kK => first | exact rfl | assumption); (case kd => ktr_room); (case ku => ktr_units)); intro t9 h9 tk9 F9 N9; (try dsimp only); (try k_sweep))
  k_with "call ref" => (k_here; (with_reducible show wpAny _ _ (PySem.call (Value.ref 271) _) _ _ _); (try dsimp only [List.nil_append, List.cons_append]); k_dflt (refine' useTake ?kC ?kB ?kF ?kX ?kN ?kT ?kK ?kd ?ku ?_; (case kN => k_asm); (case kC => (with_reducible_and_instances refine' take_u ?U ?hp ?hc ?h0 ?hl); (case U => intro _ _ _ _ _ _; k_upd); (case hp => assumption); (case hc => first | assumption | decide | omega); (case h0 => first | assumption | decide | omega); (case hl => first | assumption | decide +kernel)); (case kB => k_asm); (case kF => k_asm); (case kX => k_asm); (case kT => k_asm); (case kK => first | exact rfl | assumption); (case kd => ktr_room); (case ku => ktr_units)); intro r9 st9 sd9 kk9 t9 ta9 tb9 tc9 h9 tk9 q9 q9' p9 F9 N9; (try dsimp only at N9); (try dsimp only); (try k_sweep))
  k_with "call ref" => (k_here; (with_reducible show wpAny _ _ (PySem.call (Value.ref 75) _) _ _ _); (try dsimp only [List.nil_append, List.cons_append]); k_dflt (refine' useInt ?kC ?kB ?kF ?kX ?kN ?kT ?kK ?kd ?ku ?_; (case kN => k_asm); (case kC => (with_reducible_and_instances refine' wrap_c ?c0 ?c1); (case c0 => first | assumption | decide | omega); (case c1 => first | assumption | decide | omega)); (case kB => k_asm); (case kF => k_asm); (case kX => k_asm); (case kT => k_asm); (case kK => first | exact rfl | assumption); (case kd => ktr_room); (case ku => ktr_units)); intro t9 h9 tk9 F9 N9; (try dsimp only); (try k_sweep))
  k_with "call ref" => (k_here; (with_reducible show wpAny _ _ (PySem.call (Value.ref 89) _) _ _ _); (try dsimp only [List.nil_append, List.cons_append]); k_dflt (refine' useInt ?kC ?kB ?kF ?kX ?kN ?kT ?kK ?kd ?ku ?_; (case kN => k_asm); (case kC => (with_reducible_and_instances refine' ones_c )); (case kB => k_asm); (case kF => k_asm); (case kX => k_asm); (case kT => k_asm); (case kK => first | exact rfl | assumption); (case kd => ktr_room); (case ku => ktr_units)); intro t9 h9 tk9 F9 N9; (try dsimp only); (try k_sweep))
  k_with "call ref" => (k_here; (with_reducible show wpAny _ _ (PySem.call (Value.ref 96) _) _ _ _); (try dsimp only [List.nil_append, List.cons_append]); k_dflt (refine' useInt ?kC ?kB ?kF ?kX ?kN ?kT ?kK ?kd ?ku ?_; (case kN => k_asm); (case kC => (with_reducible_and_instances refine' parity_c )); (case kB => k_asm); (case kF => k_asm); (case kX => k_asm); (case kT => k_asm); (case kK => first | exact rfl | assumption); (case kd => ktr_room); (case ku => ktr_units)); intro t9 h9 tk9 F9 N9; (try dsimp only); (try k_sweep))
  k_with "call ref" => (k_here; (with_reducible show wpAny _ _ (PySem.call (Value.ref 290) _) _ _ _); (try dsimp only [List.nil_append, List.cons_append]); k_dflt (refine' useInt ?kC ?kB ?kF ?kX ?kN ?kT ?kK ?kd ?ku ?_; (case kN => k_asm); (case kC => (with_reducible_and_instances refine' even_c )); (case kB => k_asm); (case kF => k_asm); (case kX => k_asm); (case kT => k_asm); (case kK => first | exact rfl | assumption); (case kd => ktr_room); (case ku => ktr_units)); intro t9 h9 tk9 F9 N9; (try dsimp only); (try k_sweep))
  k_with "call ref" => (k_here; (with_reducible show wpAny _ _ (PySem.call (Value.ref 208) _) _ _ _); (try dsimp only [List.nil_append, List.cons_append]); k_dflt (refine' useFlag ?kC ?kB ?kF ?kX ?kN ?kT ?kK ?kd ?ku ?_; (case kN => k_asm); (case kC => (with_reducible_and_instances refine' flag_u ?U (szp_c ?hm filter_ne ?c0 ?c1)); (case hm => refine' mem_filter ?m1 ?m2; (case m1 => k_mem); (case m2 => first | assumption | k_ne)); (case U => intro _ _ _ _ _ _ _; k_upd); (case c0 => first | assumption | decide | omega); (case c1 => first | assumption | decide | omega)); (case kB => k_asm); (case kF => k_asm); (case kX => k_asm); (case kT => k_asm); (case kK => first | exact rfl | assumption); (case kd => ktr_room); (case ku => ktr_units)); intro t9 ta9 tb9 tc9 td9 te9 tf9 tg9 h9 tk9 F9 N9; (try dsimp only at N9); (try dsimp only); (try k_sweep))
  k_with "call ref" => (k_here; (with_reducible show wpAny _ _ (PySem.call (Value.ref 215) _) _ _ _); (try dsimp only [List.nil_append, List.cons_append]); k_dflt (refine' useFlag ?kC ?kB ?kF ?kX ?kN ?kT ?kK ?kd ?ku ?_; (case kN => k_asm); (case kC => (with_reducible_and_instances refine' flag_u ?U (add_c ?hm filter_ne ?c0 ?c1 ?c2 ?c3)); (case hm => refine' mem_filter ?m1 ?m2; (case m1 => k_mem); (case m2 => first | assumption | k_ne)); (case U => intro _ _ _ _ _ _ _; k_upd); (case c0 => first | assumption | decide | omega); (case c1 => first | assumption | decide | omega); (case c2 => first | assumption | decide | omega); (case c3 => first | assumption | decide | omega)); (case kB => k_asm); (case kF => k_asm); (case kX => k_asm); (case kT => k_asm); (case kK => first | exact rfl | assumption); (case kd => ktr_room); (case ku => ktr_units)); intro t9 ta9 tb9 tc9 td9 te9 tf9 tg9 h9 tk9 F9 N9; (try dsimp only at N9); (try dsimp only); (try k_sweep))
  k_with "call ref" => (k_here; (with_reducible show wpAny _ _ (PySem.call (Value.ref 222) _) _ _ _); (try dsimp only [List.nil_append, List.cons_append]); k_dflt (refine' useFlag ?kC ?kB ?kF ?kX ?kN ?kT ?kK ?kd ?ku ?_; (case kN => k_asm); (case kC => (with_reducible_and_instances refine' flag_u ?U (sub_c ?hm filter_ne ?c0 ?c1 ?c2 ?c3)); (case hm => refine' mem_filter ?m1 ?m2; (case m1 => k_mem); (case m2 => first | assumption | k_ne)); (case U => intro _ _ _ _ _ _ _; k_upd); (case c0 => first | assumption | decide | omega); (case c1 => first | assumption | decide | omega); (case c2 => first | assumption | decide | omega); (case c3 => first | assumption | decide | omega)); (case kB => k_asm); (case kF => k_asm); (case kX => k_asm); (case kT => k_asm); (case kK => first | exact rfl | assumption); (case kd => ktr_room); (case ku => ktr_units)); intro t9 ta9 tb9 tc9 td9 te9 tf9 tg9 h9 tk9 F9 N9; (try dsimp only at N9); (try dsimp only); (try k_sweep))
  k_with "call ref" => (k_here; (with_reducible show wpAny _ _ (PySem.call (Value.ref 229) _) _ _ _); (try dsimp only [List.nil_append, List.cons_append]); k_dflt (refine' useFlag ?kC ?kB ?kF ?kX ?kN ?kT ?kK ?kd ?ku ?_; (case kN => k_asm); (case kC => (with_reducible_and_instances refine' flag_u ?U (logic_c ?hm filter_ne ?c0 ?c1)); (case hm => refine' mem_filter ?m1 ?m2; (case m1 => k_mem); (case m2 => first | assumption | k_ne)); (case U => intro _ _ _ _ _ _ _; k_upd); (case c0 => first | assumption | decide | omega); (case c1 => first | assumption | decide | omega)); (case kB => k_asm); (case kF => k_asm); (case kX => k_asm); (case kT => k_asm); (case kK => first | exact rfl | assumption); (case kd => ktr_room); (case ku => ktr_units)); intro t9 ta9 tb9 tc9 td9 te9 tf9 tg9 h9 tk9 F9 N9; (try dsimp only at N9); (try dsimp only); (try k_sweep))
  k_with "call ref" => (k_here; (with_reducible show wpAny _ _ (PySem.call (Value.ref 236) _) _ _ _); (try dsimp only [List.nil_append, List.cons_append]); k_dflt (refine' useFlag ?kC ?kB ?kF ?kX ?kN ?kT ?kK ?kd ?ku ?_; (case kN => k_asm); (case kC => (with_reducible_and_instances refine' flag_u ?U (inc_c ?hm filter_ne ?c0 ?c1)); (case hm => refine' mem_filter ?m1 ?m2; (case m1 => k_mem); (case m2 => first | assumption | k_ne)); (case U => intro _ _ _ _ _ _ _; k_upd); (case c0 => first | assumption | decide | omega); (case c1 => first | assumption | decide | omega)); (case kB => k_asm); (case kF => k_asm); (case kX => k_asm); (case kT => k_asm); (case kK => first | exact rfl | assumption); (case kd => ktr_room); (case ku => ktr_units)); intro t9 ta9 tb9 tc9 td9 te9 tf9 tg9 h9 tk9 F9 N9; (try dsimp only at N9); (try dsimp only); (try k_sweep))
  k_with "call ref" => (k_here; (with_reducible show wpAny _ _ (PySem.call (Value.ref 243) _) _ _ _); (try dsimp only [List.nil_append, List.cons_append]); k_dflt (refine' useFlag ?kC ?kB ?kF ?kX ?kN ?kT ?kK ?kd ?ku ?_; (case kN => k_asm); (case kC => (with_reducible_and_instances refine' flag_u ?U (dec_c ?hm filter_ne ?c0 ?c1)); (case hm => refine' mem_filter ?m1 ?m2; (case m1 => k_mem); (case m2 => first | assumption | k_ne)); (case U => intro _ _ _ _ _ _ _; k_upd); (case c0 => first | assumption | decide | omega); (case c1 => first | assumption | decide | omega)); (case kB => k_asm); (case kF => k_asm); (case kX => k_asm); (case kT => k_asm); (case kK => first | exact rfl | assumption); (case kd => ktr_room); (case ku => ktr_units)); intro t9 ta9 tb9 tc9 td9 te9 tf9 tg9 h9 tk9 F9 N9; (try dsimp only at N9); (try dsimp only); (try k_sweep))
  k_with "call ref" => (k_here; (with_reducible show wpAny _ _ (PySem.call (Value.ref 250) _) _ _ _); (try dsimp only [List.nil_append, List.cons_append]); k_dflt (refine' useFlag ?kC ?kB ?kF ?kX ?kN ?kT ?kK ?kd ?ku ?_; (case kN => k_asm); (case kC => (with_reducible_and_instances refine' flag_u ?U (neg_c ?hm filter_ne ?c0 ?c1)); (case hm => refine' mem_filter ?m1 ?m2; (case m1 => k_mem); (case m2 => first | assumption | k_ne)); (case U => intro _ _ _ _ _ _ _; k_upd); (case c0 => first | assumption | decide | omega); (case c1 => first | assumption | decide | omega)); (case kB => k_asm); (case kF => k_asm); (case kX => k_asm); (case kT => k_asm); (case kK => first | exact rfl | assumption); (case kd => ktr_room); (case ku => ktr_units)); intro t9 ta9 tb9 tc9 td9 te9 tf9 tg9 h9 tk9 F9 N9; (try dsimp only at N9); (try dsimp only); (try k_sweep))
  k_with "call ref" => (k_here; (with_reducible show wpAny _ _ (PySem.call (Value.ref 103) _) _ _ _); (try dsimp only [List.nil_append, List.cons_append]); k_dflt (refine' useStrs ?kC ?kB ?kF ?kX ?kN ?kT ?kK ?kd ?ku ?_; (case kN => k_asm); (case kC => (with_reducible_and_instances refine' cn_c )); (case kB => k_asm); (case kF => k_asm); (case kX => k_asm); (case kT => k_asm); (case kK => first | exact rfl | assumption); (case kd => ktr_room); (case ku => ktr_units)); intro D9 l9 h9 tk9 a9 s9 b9 F9 N9; (try k_lt b9); (try dsimp only); (try k_sweep))
  k_with "call ref" => (k_here; (with_reducible show wpAny _ _ (PySem.call (Value.ref 187) _) _ _ _); (try dsimp only [List.nil_append, List.cons_append]); k_dflt (refine' useInt ?kC ?kB ?kF ?kX ?kN ?kT ?kK ?kd ?ku ?_; (case kN => k_asm); (case kC => (with_reducible_and_instances refine' cnum_c ?c0); (case c0 => first | assumption | decide | omega)); (case kB => k_asm); (case kF => k_asm); (case kX => k_asm); (case kT => k_asm); (case kK => first | exact rfl | assumption); (case kd => ktr_room); (case ku => ktr_units)); intro t9 h9 tk9 F9 N9; (try dsimp only); (try k_sweep))
  k_with "call ref" => (k_here; (with_reducible show wpAny _ _ (PySem.call (Value.ref 194) _) _ _ _); (try dsimp only [List.nil_append, List.cons_append]); k_dflt (refine' useBool ?kC ?kB ?kF ?kX ?kN ?kT ?kK ?kd ?ku ?_; (case kN => k_asm); (case kC => (with_reducible_and_instances refine' hnum_c ?m1 ?m2); (case m1 => k_mem); (case m2 => k_mem)); (case kB => k_asm); (case kF => k_asm); (case kX => k_asm); (case kT => k_asm); (case kK => first | exact rfl | assumption); (case kd => ktr_room); (case ku => ktr_units)); intro h9 tk9 F9 N9; (try dsimp only); (try k_sweep))
  k_with "call ref" => (k_here; (with_reducible show wpAny _ _ (PySem.call (Value.ref 201) _) _ _ _); (try dsimp only [List.nil_append, List.cons_append]); k_dflt (refine' useBool ?kC ?kB ?kF ?kX ?kN ?kT ?kK ?kd ?ku ?_; (case kN => k_asm); (case kC => (with_reducible_and_instances refine' holds_c ?m1 ?m2 ?c0); (case m1 => k_mem); (case m2 => k_mem); (case c0 => first | assumption | decide | omega)); (case kB => k_asm); (case kF => k_asm); (case kX => k_asm); (case kT => k_asm); (case kK => first | exact rfl | assumption); (case kd => ktr_room); (case ku => ktr_units)); intro h9 tk9 F9 N9; (try dsimp only); (try k_sweep))
  k_with "call ref" => (k_here; (with_reducible show wpAny _ _ (PySem.call (Value.ref 285) _) _ _ _); (try dsimp only [List.nil_append, List.cons_append]); k_dflt (refine' useInt ?kC ?kB ?kF ?kX ?kN ?kT ?kK ?kd ?ku ?_; (case kN => k_asm); (case kC => (with_reducible_and_instances refine' signed_c ?c0 ?c1); (case c0 => first | assumption | decide | omega); (case c1 => first | assumption | decide | omega)); (case kB => k_asm); (case kF => k_asm); (case kX => k_asm); (case kT => k_asm); (case kK => first | exact rfl | assumption); (case kd => ktr_room); (case ku => ktr_units)); intro t9 h9 tk9 F9 N9; (try dsimp only); (try k_sweep))
  k_with "call ref" => (k_here; (with_reducible show wpAny _ _ (PySem.call (Value.ref 297) _) _ _ _); (try dsimp only [List.nil_append, List.cons_append]); k_dflt (refine' useDue ?kC ?kB ?kF ?kX ?kN ?kT ?kK ?kd ?ku ?_; (case kN => k_asm); (case kC => (with_reducible_and_instances refine' due_c ?c0 ?c1 ?c2 ?c3 ?c4 ?c5 ?c6 ?c7 ?c8); (case c0 => first | assumption | decide | omega); (case c1 => first | assumption | decide | omega); (case c2 => first | assumption | decide | omega); (case c3 => first | assumption | decide | omega); (case c4 => first | assumption | decide | omega); (case c5 => first | assumption | decide | omega); (case c6 => first | assumption | decide | omega); (case c7 => first | assumption | decide | omega); (case c8 => first | assumption | decide | omega)); (case kB => k_asm); (case kF => k_asm); (case kX => k_asm); (case kT => k_asm); (case kK => first | exact rfl | assumption); (case kd => ktr_room); (case ku => ktr_units)); intro Dd Dt ta9 tb9 tc9 td9 te9 tf9 tg9 h9 tk9 b9 b9' F9 N9; (try k_lt b9); (try k_lt2 b9'); (try dsimp only); (try k_sweep))
  k_with "call ref" => (k_here; (with_reducible show wpAny _ _ (PySem.call (Value.ref 302) _) _ _ _); (try dsimp only [List.nil_append, List.cons_append]); k_dflt (refine' useCond ?kC ?kB ?kF ?kX ?kN ?kT ?kK ?kd ?ku ?_; (case kN => k_asm); (case kC => (with_reducible_and_instances refine' cond_c ?c0 ?c1 ?c2 ?c3 ?c4); (case c0 => first | assumption | exact Int.emod_nonneg _ (Int.ne_of_gt (kbt_pos _))); (case c1 => first | assumption | exact Int.emod_lt_of_pos _ (kbt_pos _)); (case c2 => first | assumption | exact Int.emod_nonneg _ (Int.ne_of_gt (kbt_pos _))); (case c3 => first | assumption | exact Int.emod_lt_of_pos _ (kbt_pos _)); (case c4 => first | assumption | exact pow_le (And.right hz9z))); (case kB => k_asm); (case kF => k_asm); (case kX => k_asm); (case kT => k_asm); (case kK => first | exact rfl | assumption); (case kd => ktr_room); (case ku => ktr_units)); intro D9 zs9 h9 tk9 hz9 b9 F9 N9; (try k_lt b9); (try dsimp only); (try k_sweep))
  k_with "call ref" => (k_here; (with_reducible show wpAny _ _ (PySem.call (Value.ref 307) _) _ _ _); (try dsimp only [List.nil_append, List.cons_append]); k_dflt (refine' useJunk ?kC ?kB ?kF ?kX ?kN ?kT ?kK ?kd ?ku ?_; (case kN => k_asm); (case kC => (with_reducible_and_instances refine' junk_u ?U ?hp ?hc); (case U => intro _ _ _ _ _ _; k_upd); (case hp => assumption); (case hc => first | assumption | decide | omega)); (case kB => k_asm); (case kF => k_asm); (case kX => k_asm); (case kT => k_asm); (case kK => first | exact rfl | assumption); (case kd => ktr_room); (case ku => ktr_units)); intro TDj xj dj Dj κj r1 r2 r3 r4 r5 r6 r7 t1 t2 t3 t4 t5 t6 t7 st9 sd9 kk9 ta9 tb9 tc9 h9 tk9 hb9 hp9 l9 l9' l9'' a9 b9 F9 N9; (try dsimp only at N9); (try k_dflt (have z9 : ∀ p ∈ own9, p.1 ≠ dj := (fun p hp => Nat.ne_of_lt (a9 p (by repeat (first | exact hp | refine List.Mem.tail _ ?_)))))); (try k_lt a9); (try k_lt2 l9); (try k_lt2 l9'); (try k_lt2 l9''); (try simp only [LCg.Off1, and_true] at b9); (try dsimp only); (try k_sweep))
  k_with "call ref" => (k_here; (with_reducible show wpAny _ _ (PySem.call (Value.ref 278) _) _ _ _); (try dsimp only [List.nil_append, List.cons_append]); k_dflt (refine' useNum ?kC ?kB ?kF ?kX ?kN ?kT ?kK ?kd ?ku ?_; (case kN => k_asm); (case kC => (with_reducible_and_instances refine' number_u ?U ?hp ?hc ?h0 ?h1); (case U => intro _ _ _ _ _ _; k_upd); (case hp => assumption); (case hc => first | assumption | decide | omega); (case h0 => first | assumption | decide | omega); (case h1 => first | assumption | decide | omega)); (case kB => k_asm); (case kF => k_asm); (case kX => k_asm); (case kT => k_asm); (case kK => first | exact rfl | assumption); (case kd => ktr_room); (case ku => ktr_units)); intro r9 st9 sd9 kk9 t9 ta9 tb9 tc9 h9 tk9 p9 F9 N9; (try dsimp only at N9); (try dsimp only); (try k_sweep))
  k_with "call ref" => (k_here; (with_reducible show wpAny _ _ (PySem.call (Value.ref 124) _) _ _ _); (try dsimp only [List.nil_append, List.cons_append]); k_dflt (refine' useTold ?kC ?kB ?kF ?kX ?kN ?kT ?kK ?kd ?ku ?_; (case kN => k_asm); (case kC => (with_reducible_and_instances refine' told_c ?m1 ?m2); (case m1 => k_mem); (case m2 => k_mem)); (case kB => k_asm); (case kF => k_asm); (case kX => k_asm); (case kT => k_asm); (case kK => first | exact rfl | assumption); (case kd => ktr_room); (case ku => ktr_units)); intro T9 h9 tk9 a9 F9 N9; (try k_lt a9); (try dsimp only); (try k_sweep))
  k_with "call ref" => (k_here; (with_reducible show wpAny _ _ (PySem.call (Value.ref 59) _) _ _ _); (try dsimp only [List.nil_append, List.cons_append]); k_dflt (refine' useMach ?kC ?kB ?kF ?kX ?kN ?kT ?kK ?kd ?ku ?_; (case kN => k_asm); (case kC => (with_reducible_and_instances refine mach_c)); (case kB => k_asm); (case kF => k_asm); (case kX => k_asm); (case kT => k_asm); (case kK => first | exact rfl | assumption); (case kd => ktr_room); (case ku => ktr_units)); intro x9 tp9 D9 vs9 h9 tk9 q9 q9' F9 N9; (try dsimp only); (try k_sweep))
  k_with "call ref" => (k_here; (with_reducible show wpAny _ _ (PySem.call (Value.ref 314) _) _ _ _); (try dsimp only [List.nil_append, List.cons_append]); k_dflt (refine' useDeeds ?kC ?kB ?kF ?kX ?kN ?kT ?kK ?kd ?ku ?_; (case kN => k_asm); (case kC => (with_reducible_and_instances refine' deeds_u ?U ?c0 ?c1 ?c2 ?c3 ?hp ?hc); (case U => intro _ _ _ _ _ _; k_upd); (case hp => assumption); (case hc => first | assumption | decide | omega); (case c0 => first | assumption | decide | omega); (case c1 => first | assumption | decide | omega); (case c2 => first | assumption | decide | omega); (case c3 => first | assumption | decide | omega)); (case kB => k_asm); (case kF => k_asm); (case kX => k_asm); (case kT => k_asm); (case kK => first | exact rfl | assumption); (case kd => ktr_room); (case ku => ktr_units)); intro st9 sd9 kk9 ta9 tb9 tc9 h9 tk9 p9 F9 N9; (try dsimp only at N9); (try dsimp only); (try k_sweep))
  k_with "call ref" => (k_here; (with_reducible show wpAny _ _ (PySem.call (Value.ref 187) _) _ _ _); (try dsimp only [List.nil_append, List.cons_append]); k_dflt (refine' useR (cnumR_c ?hin) ?kB ?kF ?kX ?kN ?kT ?kK ?kd ?ku ?_; (case kN => k_asm); (case hin => first | assumption | exact near_of (n := 12) (by decide +kernel) rfl (by assumption) (by assumption)); (case kB => k_asm); (case kF => k_asm); (case kX => k_asm); (case kT => k_asm); (case kK => first | exact rfl | assumption); (case kd => ktr_room); (case ku => ktr_units)); intro e9 t9 ws9 G9 h9 tk9 FG9 R9 U9; (try dsimp only))
  k_with "call ref" => (k_here; (with_reducible show wpAny _ _ (PySem.call (Value.ref 159) _) _ _ _); (try dsimp only [List.nil_append, List.cons_append]); k_dflt (refine' useR (getR_c ?hin) ?kB ?kF ?kX ?kN ?kT ?kK ?kd ?ku ?_; (case kN => k_asm); (case hin => first | assumption | exact near_of (n := 12) (by decide +kernel) rfl (by assumption) (by assumption)); (case kB => k_asm); (case kF => k_asm); (case kX => k_asm); (case kT => k_asm); (case kK => first | exact rfl | assumption); (case kd => ktr_room); (case ku => ktr_units)); intro e9 t9 ws9 G9 h9 tk9 FG9 R9 U9; (try dsimp only))
  k_with "call ref" => (k_here; (with_reducible show wpAny _ _ (PySem.call (Value.ref 166) _) _ _ _); (try dsimp only [List.nil_append, List.cons_append]); k_dflt (refine' useR (putR_c ?hin) ?kB ?kF ?kX ?kN ?kT ?kK ?kd ?ku ?_; (case kN => k_asm); (case hin => first | assumption | exact near_of (n := 12) (by decide +kernel) rfl (by assumption) (by assumption)); (case kB => k_asm); (case kF => k_asm); (case kX => k_asm); (case kT => k_asm); (case kK => first | exact rfl | assumption); (case kd => ktr_room); (case ku => ktr_units)); intro e9 t9 ws9 G9 h9 tk9 FG9 R9 U9; (try dsimp only))
  k_with "call ref" => (k_here; (with_reducible show wpAny _ _ (PySem.call (Value.ref 201) _) _ _ _); (try dsimp only [List.nil_append, List.cons_append]); k_dflt (refine' useR (holdsR_c ?hin) ?kB ?kF ?kX ?kN ?kT ?kK ?kd ?ku ?_; (case kN => k_asm); (case hin => first | assumption | exact near_of (n := 12) (by decide +kernel) rfl (by assumption) (by assumption)); (case kB => k_asm); (case kF => k_asm); (case kX => k_asm); (case kT => k_asm); (case kK => first | exact rfl | assumption); (case kd => ktr_room); (case ku => ktr_units)); intro e9 t9 ws9 G9 h9 tk9 FG9 R9 U9; (try dsimp only))
  k_with "binaryOp FloorDiv int int" => (k_here; (with_reducible refine fdiv_pos ?fda ?fdb ?_); (case fda => first | assumption | decide); (case fdb => first | assumption | decide +kernel))
  k_with "binaryOp Mod int int" => (k_here; (with_reducible refine fmod_pos ?fma ?_); (case fma => first | assumption | decide))
  k_with "eval IfExp" => (k_here; with_reducible refine ifexp_int ?_)
  k_with "subscriptTail Name Constant ref int" => (k_here; (with_reducible show wpAny _ _ (subscriptTail _ _ (Value.ref _) (Value.int _ _)) _ _ _); k_dflt (refine' item_at ?iN ?im ?ia ?ib ?ix ?_ ?is; (case iN => k_asm); (case im => k_mem); (case ia => decide); (case ib => decide); (case ix => rfl); (case is => with_unfolding_all rfl); k_whole))
  k_with "subscriptTail" => (k_here; (with_reducible show wpAny _ _ (subscriptTail _ _ (Value.ref _) (Value.int (ite _ _ _) _)) _ _ _); k_dflt (refine' sub01 ?N ?m ?e ?_ ?s; (case N => k_asm); (case m => k_mem); (case e => assumption); (case s => with_unfolding_all rfl)); intro t9)
  k_with "call builtin:list.index" => (k_here; (with_reducible show wpAny _ _ (PySem.call (Value.builtin _) [Value.ref _, Value.str _ _]) _ _ _); k_dflt (refine' sindex ?N ?m ?i ?e ?z ?_; (case N => k_asm); (case m => k_mem); (case i => assumption); (case e => assumption); (case z => decide)))
  k_with "compareOp NotIn str ref" => (k_here; k_dflt (refine' notin_list_strs ?l ?i ?_; (case l => exact PySem.IsL.isList (n := 0) (News.get (by k_asm) (by k_mem))); (case i => assumption)))
  k_with "call builtin:str.split" => (k_here; (with_reducible show wpAny _ _ (PySem.call (Value.builtin "str.split") _) _ _ _); k_dflt (first | (refine KSpl.split1 (by k_asm) (by k_asm) (by decide) ?_ (by kspl_size)) | (refine KSpl.split0 (by k_asm) (by k_asm) ?_ (by kspl_size))); intro D' l' h' k' e' a' F' N' l1; (try k_lt l1); kspl_eval e'; rw [e'] at a'; (have s9 := strsAre_of_values l'); rw [a'] at s9)
  k_with "call builtin:str.split" => (k_here; (rename Txt.split _ _ = _ => hsp9); (with_reducible show wpAny _ _ (PySem.call (Value.builtin "str.split") _) _ _ _); k_dflt (refine KSpl.split1 (by k_asm) (by k_asm) (by decide) ?_ (by assumption)); intro D' l' h' k' e' a' F' N' l1; (try k_lt l1); rw [hsp9] at e')
  k_with "eval ListComp" => (k_here; (with_reducible show wpAny _ _ (PySem.eval (Expr.ListComp _ [⟨Expr.Tuple _ _ _, _, _, _⟩] _ _) _) _ _ _); k_dflt (refine' zip_comp (cl := []) ?a0 ?a1 ?a2 ?a3 ?a4 ?a5 ?a6 ?a7 ?a8 ?_ ?a9; (case a0 => k_asm); (case a1 => rfl); (case a2 => rfl); (case a3 => decide); (case a4 => rfl); (case a5 => decide); (case a6 => rfl); (case a7 => rfl); (case a8 => decide); (case a9 => intro _; rfl)))
  k_with "call type:zip" => (k_here; k_dflt (focus (refine' zip_strs ?z1 ?z2 ?z3 ?z4 ?z5 rows8 ?_ ?_; (case z1 => k_asm); (case z2 => k_asm); (case z3 => k_mem); (case z4 => k_mem); (case z5 => exact Nat.le_of_ble_eq_true rfl); (intro nm' t' c' p' q' hsp hnl; unfold ZTurn; intro s' R' C' oC' m' E' hC ha hb F' N'); rotate_left; (intro D' zs' h' tk' hz F' N' l1; (try k_lt l1)); rotate_right)))
  k_with "CompSrc" => (k_here; k_dflt (focus (refine LCg.CompSrc.range (by rfl) (by k_asm) (by k_asm) (by assumption) (by first | decide | rfl) (by first | rfl | decide) (by exact Nat.le_of_ble_eq_true rfl) ?_; intro g'; (refine' jk_rest ?j1 ?j2 ?j3 ?_ ?_; (case j1 => assumption); (case j2 => rfl); (case j3 => assumption); (intro c8 st8 sd8 kk8 ta8 tb8 tc8 v8 I' oI' C' oC' D' m' ys' h' tk' E' hp8 hc8 hC' hx' F' N' off' ne'; (have off8 := off'); (simp only [LCg.Off3] at off8); (obtain ⟨oa8, ob8, oc8⟩ := off8); (have off7 := off'); (clear off'); (with_reducible refine id ?_)); rotate_left; (intro r1 r2 r3 r4 r5 r6 r7 t1 t2 t3 t4 t5 t6 t7 st8 sd8 kk8 ta8 tb8 tc8 hb8 hp8); rotate_right))))
  k_with "CompEnd" => (k_here; (rename News _ _ _ _ => N8); (rename LCg.Off3 _ _ _ _ => o8); k_dflt (exact LCg.CompEnd.intro (by assumption) N8 _ (fun p hp => hp) o8 True.intro ⟨_, _, _, _, _, _, _, _, rfl, ⟨by assumption, by assumption⟩, by assumption, rfl⟩))
  k_with "call ref" => (k_here; (with_reducible show wpAny _ _ (PySem.call (Value.ref 176) _) _ _ _); (try dsimp only [List.nil_append, List.cons_append]); k_dflt (refine' call_cls ?k1 ?k2 ?k3 ?k4 ?k5 ?k6 ?_; (case k1 => k_asm); (case k2 => k_asm); (case k3 => k_asm); (case k4 => k_is); (case k5 => k_is); (case k6 => k_is); k_whole; intro x' d' h' F' N' l1 l2; (try k_lt l1); (try k_lt2 l2); (try k_sweep); (refine' code_def ?k1 ?k2 ?k3 ?k4 ?k5 ?kA ?kF ?kK ?k6 ?k7 ?k8 ?k9 ?kB ?_ ?c2 ?c3 ?c4 ?c5; (case kA => exact rfl); (case kF => exact rfl); (case kK => first | assumption | exact rfl); (case k1 => k_asm); (case k2 => k_asm); (case k3 => k_asm); (case k4 => k_asm); (case k5 => k_asm); (case k6 => k_is); (case k7 => k_is); (case k8 => ktr_room); (case k9 => exact BindsTo.of_eq rfl); (case c5 => decide); (case kB => exact locs rfl); (case c2 => exact rfl); (case c3 => exact rfl); (case c4 => exact rfl); k_whole; intro g' L' h' FG' F' N' B' X' T'; (try dsimp only); (try k_fold))))
  k_with "binaryOp LShift int int" => (k_here; (with_reducible refine shl_one ?kb1 ?kb2 ?_); (case kb1 => first | assumption | decide | omega); (case kb2 => first | assumption | decide | omega))
  k_with "compareOp NotEq int int" => (k_here; (with_reducible refine ne_self ?_))
  k_with "compareOp Eq int int" => (k_here; (with_reducible show wpAny _ _ (compareOp _ (Value.int (-1) _) _) _ _ _); with_reducible refine eq_m1 ?_)
  k_with "binaryOp Mult int int" => (k_here; (rename PInv _ _ => pI9); (have pI8 := pmul pI9 (by omega)); with_reducible refine mul_int ?_ pI8)
  k_with "getMethod" => (k_here; (with_reducible show wpAny _ _ (getMethod (Value.type "Exception") _ _) _ _ _); k_dflt (refine' method_type ?F ?X ?t ?s ?e ?q ?_; (case F => k_asm); (case X => k_asm); (case t => first | rfl | kernel_rfl); (case s => decide +kernel); (case e => k_is); (case q => rfl)))
  k_with "call builtin:Exception.__init__" => (k_here; k_dflt (refine' exc_init ?F ?N ?X ?U ?z ?_; (case F => k_asm); (case N => k_asm); (case X => k_asm); (case U => intro _; k_upd); (case z => exact Nat.le_of_ble_eq_true rfl)); intro tp9 h9 F9 N9 l9; (have q8 := fun p hp => Nat.ne_of_lt (l9 p (.tail _ (.tail _ hp)))); (try k_lt l9))
  k_with "setAttr ref" => (k_here; k_dflt (refine' x_set0 ?F ?N ?X ?U ?n ?e ?_; (case F => k_asm); (case N => k_asm); (case X => k_asm); (case U => intro _; k_upd); (case n => k_is); (case e => intro _; kernel_rfl); intro D9 h9 tk9 F9 N9 l9; (have q9 := fun p hp => Nat.ne_of_lt (l9 p (.tail _ (.tail _ (.tail _ hp))))); (try k_lt l9)))
  k_with "setAttr ref" => (k_here; (with_reducible show wpAny _ _ (setAttr _ _ Value.none) _ _ _); k_dflt (refine' x_set1 ?F ?N ?X ?m ?U ?n ?l ?z ?e ?_; (case F => k_asm); (case N => k_asm); (case X => k_asm); (case m => k_mem); (case e => intro _; kernel_rfl); (case U => intro _; k_upd); (case n => k_is); (case l => rfl); (case z => exact Nat.le_of_ble_eq_true rfl); intro h9 tk9 F9 N9))
  k_with "exec Raise some none" => (k_here; k_dflt (refine' raise59 ?hh ?_; (case hh => rfl)))
  k_with "RaiseBack" => (k_here; k_dflt (refine ⟨_, _, _, _, rfl, Frag.In.keeps (by assumption) (Fr.keep (by k_asm)) _ _ rfl, (News.get (by k_asm) (.head _)), rfl, ?_⟩))
  k_with "execs cons" => (k_here; (with_reducible show wpAny _ _ (execs (Stmt.Assign _ _ ⟨208, _, _, _⟩ :: _) _) _ _ _); clear M208; (rename News _ _ _ _ => N9); k_dflt (have N8 := keep4 (a := xj) (b := dj) (c := Dj) (d := pa) N9 (by k_mem) (by k_mem) (by k_mem) (by k_mem)); clear N9; walk_say "CUT208")
  k_with "execs cons" => (k_here; (with_reducible show wpAny _ _ (execs (Stmt.Assign _ _ ⟨211, _, _, _⟩ :: _) _) _ _ _); clear M211; (rename News _ _ _ _ => N9); k_dflt (have N8 := keep4 (a := xj) (b := dj) (c := Dj) (d := pa) N9 (by k_mem) (by k_mem) (by k_mem) (by k_mem)); clear N9; walk_say "CUT211")
  k_with "execs cons" => (k_here; (with_reducible show wpAny _ _ (execs (Stmt.For _ _ _ _ ⟨214, _, _, _⟩ :: _) _) _ _ _); clear M214; (generalize Dd = Dk at *); (rename News _ _ _ _ => N9); k_dflt (have N8 := keep4 (a := xj) (b := dj) (c := Dj) (d := pa) N9 (by k_mem) (by k_mem) (by k_mem) (by k_mem)); k_dflt (replace N8 := keep1 (a := Dk) N9 N8 (by k_mem)); clear N9; walk_say "CUT214")
  k_with "execs cons" => (k_here; (with_reducible show wpAny _ _ (execs (Stmt.If _ _ _ ⟨218, _, _, _⟩ :: _) _) _ _ _); clear M218; (rename News _ _ _ _ => N9); k_dflt (have N8 := keep4 (a := xj) (b := dj) (c := Dj) (d := pa) N9 (by k_mem) (by k_mem) (by k_mem) (by k_mem)); k_dflt (replace N8 := keep1 (a := Dk) N9 N8 (by k_mem)); k_dflt (replace N8 := keep1 (a := Dd) N9 N8 (by k_mem)); clear N9; walk_say "CUT218")
  k_with "execs cons" => (k_here; (with_reducible show wpAny _ _ (execs (Stmt.Assign _ _ ⟨220, _, _, _⟩ :: _) _) _ _ _); clear M220; (rename News _ _ _ _ => N9); k_dflt (have N8 := keep4 (a := xj) (b := dj) (c := Dj) (d := pa) N9 (by k_mem) (by k_mem) (by k_mem) (by k_mem)); clear N9; walk_say "CUT220")
  k_with "execs cons" => (k_here; (with_reducible show wpAny _ _ (execs (Stmt.Assign _ _ ⟨223, _, _, _⟩ :: _) _) _ _ _); clear M223; (rename News _ _ _ _ => N9); k_dflt (have N8 := keep4 (a := xj) (b := dj) (c := Dj) (d := pa) N9 (by k_mem) (by k_mem) (by k_mem) (by k_mem)); k_dflt (replace N8 := keep1 (a := Dd) N9 N8 (by k_mem)); clear N9; walk_say "CUT223")
  trivial
end Mine
namespace Mine
def even8 (x : Int) : Int := 1 - pop (x % 256) % 2
theorem parity_c {w : World} {x : Int} {tx : Tok} {news : Led} : Ctr w 4 96 [.int x tx] news (IntP (even8 x) news) := by
  unfold Ctr
  k_fill
  intro p loose mean mg mb dp un gd cn cs a ccd cl outer A₀ base h₀ L m s Q E B F X N T hk hd hu hret
  refine wpAny_call ?_
  k_dflt ktr_enter
  k_steps
  exact hret _ _ _ _ ⟨⟨_, rfl⟩, rfl⟩ (by k_asm) (by k_asm)
theorem low_one (x d e : Int) (hd : d ≠ 0) (h : 256 = d * (2 * e)) : x % 256 / d % 2 = x / d % 2 := by
  have e1 : x % 256 = x + d * (2 * (-(e * (x / 256)))) := by
    rw [Int.emod_def]
    conv => lhs; rw [show (256 : Int) * (x / 256) = d * (2 * e) * (x / 256) by rw [← h]]
    rw [Int.mul_neg, Int.mul_neg, ← Int.sub_eq_add_neg, Int.mul_assoc, Int.mul_assoc]
  rw [e1, Int.add_mul_ediv_left _ _ hd, Int.add_mul_emod_self_left]
theorem low_bit (x : Int) : x % 256 % 2 = x % 2 ∧ x % 256 / 2 % 2 = x / 2 % 2 ∧ x % 256 / 4 % 2 = x / 4 % 2 ∧ x % 256 / 8 % 2 = x / 8 % 2 ∧ x % 256 / 16 % 2 = x / 16 % 2 ∧ x % 256 / 32 % 2 = x / 32 % 2 ∧ x % 256 / 64 % 2 = x / 64 % 2 ∧ x % 256 / 128 % 2 = x / 128 % 2 :=
  ⟨Int.emod_emod_of_dvd x (by decide), low_one x 2 64 (by decide) (by decide), low_one x 4 32 (by decide) (by decide), low_one x 8 16 (by decide) (by decide), low_one x 16 8 (by decide) (by decide), low_one x 32 4 (by decide) (by decide), low_one x 64 2 (by decide) (by decide), low_one x 128 1 (by decide) (by decide)⟩
theorem even_sum (x : Int) : (List.map (fun k' => x.fdiv (2 ^ k'.toNat) % 2) (rangeKs 0 (8 - 0 : Int).toNat)).sum % 2 = pop (x % 256) % 2 := by
  have e : rangeKs 0 (8 - 0 : Int).toNat = [0, 1, 2, 3, 4, 5, 6, 7] := by decide
  obtain ⟨l0, l1, l2, l3, l4, l5, l6, l7⟩ := low_bit x
  unfold pop
  rw [e, l0, l1, l2, l3, l4, l5, l6, l7]
  simp only [List.map_cons, List.map_nil, List.sum_cons, List.sum_nil, Int.fdiv_eq_ediv_of_nonneg _ (Int.le_of_lt (kbt_pos _))]
  have n0 : x / 2 ^ (Int.toNat 0) % 2 = x % 2 := by rw [show (2 : Int) ^ Int.toNat 0 = 1 from rfl, Int.ediv_one]
  rw [n0]
  show (x % 2 + (x / 2 % 2 + (x / 4 % 2 + (x / 8 % 2 + (x / 16 % 2 + (x / 32 % 2 + (x / 64 % 2 + (x / 128 % 2 + 0)))))))) % 2 = _
  generalize x % 2 = a0, x / 2 % 2 = a1, x / 4 % 2 = a2, x / 8 % 2 = a3, x / 16 % 2 = a4, x / 32 % 2 = a5, x / 64 % 2 = a6, x / 128 % 2 = a7
  rw [show a0 + (a1 + (a2 + (a3 + (a4 + (a5 + (a6 + (a7 + 0))))))) = a0 + a1 + a2 + a3 + a4 + a5 + a6 + a7 by simp only [Int.add_zero, Int.add_assoc]]
theorem even_c {w : World} {x : Int} {tx : Tok} {news : Led} : Ctr w 1 290 [.int x tx] news (IntP (even8 x) news) := by
  unfold Ctr
  k_fill
  intro p loose mean mg mb dp un gd cn cs a ccd cl outer A₀ base h₀ L m s Q E B F X N T hk hd hu hret
  refine wpAny_call ?_
  k_dflt (refine' code_defC ?k1 ?k2 ?k3 ?k4 ?k5 ?kA ?kF ?kK ?k6 ?k7 ?k8 ?k9 ?kB ?kD ?_ ?c2 ?c3 ?c4; (case kA => exact rfl); (case kF => exact rfl); (case kK => assumption); (case k1 => k_asm); (case k2 => k_asm); (case k3 => k_asm); (case k4 => k_asm); (case k5 => k_asm); (case k6 => k_is); (case k7 => k_is); (case k8 => ktr_room); (case k9 => exact BindsTo.of_eq rfl); (case kB => exact rfl); (case kD => decide +kernel); (case c2 => exact rfl); (case c3 => exact rfl); (case c4 => exact rfl); k_whole; intro g' L' h' tk' cells' FG' F' N' Y' B' X' T' l1; (try k_lt l1); k_cells Y'; (try simp only [List.cons_append, List.nil_append] at N'); (try dsimp only); (try k_fold))
  k_steps
  rw [even_sum]
  exact hret _ _ _ _ ⟨⟨_, rfl⟩, rfl⟩ (by k_asm) (ndrop (by k_asm) (by kcj_all))
end Mine
namespace Mine
theorem div_succ (x : Int) (k : Nat) : x / 2 ^ (k + 1) = x / 2 / 2 ^ k := by
  rw [Int.pow_succ, Int.mul_comm, Int.ediv_ediv_of_nonneg (by decide : (0 : Int) ≤ 2)]
theorem and_bit : ∀ (k : Nat) (x y : Int), Builtin.bitAnd x y / 2 ^ k % 2 = if x / 2 ^ k % 2 = 1 ∧ y / 2 ^ k % 2 = 1 then 1 else 0
  | 0, x, y => by
    have h := kbt_halves x y
    simp only [Int.pow_zero, Int.ediv_one]
    rw [h]
    split <;> omega
  | k + 1, x, y => by
    have h := kbt_halves x y
    have e : Builtin.bitAnd x y / 2 = Builtin.bitAnd (x / 2) (y / 2) := by rw [h]; split <;> omega
    rw [div_succ, div_succ x, div_succ y, e]
    exact and_bit k _ _
theorem xor_half (x y : Int) : Builtin.bitXor x y = 2 * Builtin.bitXor (x / 2) (y / 2) + (x % 2 + y % 2) % 2 := by
  have h := kbt_halves x y
  rw [bitXor_and, bitXor_and, h]
  split <;> omega
theorem xor_bit : ∀ (k : Nat) (x y : Int), Builtin.bitXor x y / 2 ^ k % 2 = (x / 2 ^ k % 2 + y / 2 ^ k % 2) % 2
  | 0, x, y => by
    have h := xor_half x y
    simp only [Int.pow_zero, Int.ediv_one]
    omega
  | k + 1, x, y => by
    have h := xor_half x y
    have e : Builtin.bitXor x y / 2 = Builtin.bitXor (x / 2) (y / 2) := by omega
    rw [div_succ, div_succ x, div_succ y, e]
    exact xor_bit k _ _
/-- the top bit of a number below 2 H -/
theorem top_bit {H z : Int} (hH : 0 < H) (h0 : 0 ≤ z) (h1 : z < 2 * H) : z / H % 2 = if H ≤ z then 1 else 0 := by
  by_cases h : H ≤ z
  · rw [if_pos h]
    have : z / H = 1 := by
      refine (Int.ediv_eq_iff_of_pos hH).mpr ⟨?_, ?_⟩ <;> omega
    rw [this]; rfl
  · rw [if_neg h, Int.ediv_eq_zero_of_lt h0 (by omega)]; rfl
theorem mod_up {W t : Int} (h0 : 0 ≤ t) (h1 : t < 2 * W) : (t % W = if t < W then t else t - W) ∧ (t / W = if t < W then 0 else 1) := by
  by_cases h : t < W
  · rw [if_pos h, if_pos h]
    exact ⟨Int.emod_eq_of_lt h0 h, Int.ediv_eq_zero_of_lt h0 h⟩
  · rw [if_neg h, if_neg h]
    exact kbt_unique' h0 h1 h
where
  kbt_unique' {W t : Int} (h0 : 0 ≤ t) (h1 : t < 2 * W) (h : ¬ t < W) : t % W = t - W ∧ t / W = 1 := by
    have := kbt_unique (a := t) (b := W) (q := 1) (r := t - W) (by omega) (by omega) (by omega) (by omega)
    exact ⟨this.2, this.1⟩
theorem mod_down {W t : Int} (h0 : -W ≤ t) (h1 : t < W) : t % W = if t < 0 then t + W else t := by
  by_cases h : t < 0
  · rw [if_pos h]
    exact (kbt_unique (a := t) (b := W) (q := -1) (r := t + W) (by omega) (by omega) (by omega) (by omega)).2
  · rw [if_neg h]
    exact Int.emod_eq_of_lt (by omega) h1
def sg (x W : Int) : Int := if 2 * x < W then x else x - W
def dR (x y c W way : Int) : Int := (x + way * (y + c)) % W
def dC (x y c W way : Int) : Int := if x + way * (y + c) = dR x y c W way then 0 else 1
def dA (x y c way : Int) : Int := if 0 ≤ x % 16 + way * (y % 16 + c) ∧ x % 16 + way * (y % 16 + c) < 16 then 0 else 1
def dO (x y c W way : Int) : Int := if 0 - W / 2 ≤ sg x W + way * (sg y W + c) ∧ sg x W + way * (sg y W + c) < W / 2 then 0 else 1
def dZ (r : Int) : Int := if r = 0 then 1 else 0
def dS (r W : Int) : Int := if 2 * r ≥ W then 1 else 0
section
variable {W H x y c : Int} (hW : W = 2 * H) (hH : 0 < H) (x0 : 0 ≤ x) (x1 : x < W) (y0 : 0 ≤ y) (y1 : y < W) (c0 : 0 ≤ c) (c1 : c ≤ 1)
include hW hH x0 x1 y0 y1 c0 c1
theorem add_cf : (x + y + c) / W = dC x y c W 1 := by
  have h := mod_up (W := W) (t := x + y + c) (by omega) (by omega)
  unfold dC dR
  rw [Int.one_mul, ← Int.add_assoc, h.2, h.1]
  (repeat' split) <;> omega
theorem add_of : (if (x / H % 2 + (x + y + c) % W / H % 2) % 2 = 1 ∧ (y / H % 2 + (x + y + c) % W / H % 2) % 2 = 1 then (1 : Int) else 0) = dO x y c W 1 := by
  have h := (mod_up (W := W) (t := x + y + c) (by omega) (by omega)).1
  rw [top_bit hH x0 (by omega), top_bit hH y0 (by omega), h, top_bit (z := if x + y + c < W then x + y + c else x + y + c - W) hH (by split <;> omega) (by split <;> omega)]
  unfold dO sg
  rw [Int.one_mul]
  have hd : W / 2 = H := by omega
  rw [hd]
  subst hW
  (repeat' split) <;> omega
theorem sub_cf : (if x - y - c < 0 then (1 : Int) else 0) = dC x y c W (-1) := by
  have h := mod_down (W := W) (t := x - y - c) (by omega) (by omega)
  unfold dC dR
  rw [show x + -1 * (y + c) = x - y - c by omega, h]
  (repeat' split) <;> omega
theorem sub_of : (if (x / H % 2 + y / H % 2) % 2 = 1 ∧ (x / H % 2 + (x - y - c) % W / H % 2) % 2 = 1 then (1 : Int) else 0) = dO x y c W (-1) := by
  have h := mod_down (W := W) (t := x - y - c) (by omega) (by omega)
  rw [top_bit hH x0 (by omega), top_bit hH y0 (by omega), h, top_bit (z := if x - y - c < 0 then x - y - c + W else x - y - c) hH (by split <;> omega) (by split <;> omega)]
  unfold dO sg
  have hd : W / 2 = H := by omega
  rw [hd]
  subst hW
  (repeat' split) <;> omega
end
theorem add_r (x y c W : Int) : (x + y + c) % W = dR x y c W 1 := by unfold dR; rw [Int.one_mul, Int.add_assoc]
theorem sub_r (x y c W : Int) : (x - y - c) % W = dR x y c W (-1) := by unfold dR; rw [show x + -1 * (y + c) = x - y - c by omega]
theorem add_af {x y c : Int} (c0 : 0 ≤ c) (c1 : c ≤ 1) : (x % 16 + y % 16 + c) / 16 = dA x y c 1 := by
  unfold dA
  (repeat' split) <;> omega
theorem sub_af {x y c : Int} (c0 : 0 ≤ c) (c1 : c ≤ 1) : (if x % 16 - y % 16 - c < 0 then (1 : Int) else 0) = dA x y c (-1) := by
  unfold dA
  (repeat' split) <;> omega
theorem sf_top {W H r : Int} (hW : W = 2 * H) (hH : 0 < H) (h0 : 0 ≤ r) (h1 : r < W) : r / H % 2 = dS r W := by
  rw [top_bit hH h0 (by omega)]
  unfold dS
  (repeat' split) <;> omega
theorem dZ_eq (r : Int) : (if (r == 0) = true then (1 : Int) else 0) = dZ r := by simp [dZ]
theorem dec_ite {p : Prop} [Decidable p] : (if decide p = true then (1 : Int) else 0) = if p then 1 else 0 := by by_cases h : p <;> simp [h]
theorem one_mod {size : Int} (h : 1 ≤ size) : (1 : Int) % 2 ^ size.toNat = 1 := by
  have h1 := kbt_pos (size - 1).toNat
  rw [wh' h]
  exact Int.emod_eq_of_lt (by decide) (by omega)
where
  wh' {size : Int} (h : 1 ≤ size) : (2 : Int) ^ size.toNat = 2 * 2 ^ (size - 1).toNat := by
    rw [show size.toNat = (size - 1).toNat + 1 by omega, Int.pow_succ, Int.mul_comm]
theorem wh {size : Int} (h : 1 ≤ size) : (2 : Int) ^ size.toNat = 2 * 2 ^ (size - 1).toNat := by
  rw [show size.toNat = (size - 1).toNat + 1 by omega, Int.pow_succ, Int.mul_comm]
end Mine
namespace Mine
structure KT where
  (a b c d e f g : Tok)
abbrev flagsD (w : World) (κ : KT) (cf pf af zf sf of df : Int) (t1 t2 t3 t4 t5 t6 t7 : Tok) : Obj :=
  dictOf [⟨PyData.keyHash w.params (Str.ofString "cf"), .str (Str.ofString "cf") κ.a, .int cf t1⟩, ⟨PyData.keyHash w.params (Str.ofString "pf"), .str (Str.ofString "pf") κ.b, .int pf t2⟩, ⟨PyData.keyHash w.params (Str.ofString "af"), .str (Str.ofString "af") κ.c, .int af t3⟩,
    ⟨PyData.keyHash w.params (Str.ofString "zf"), .str (Str.ofString "zf") κ.d, .int zf t4⟩, ⟨PyData.keyHash w.params (Str.ofString "sf"), .str (Str.ofString "sf") κ.e, .int sf t5⟩, ⟨PyData.keyHash w.params (Str.ofString "of"), .str (Str.ofString "of") κ.f, .int of t6⟩, ⟨PyData.keyHash w.params (Str.ofString "df"), .str (Str.ofString "df") κ.g, .int df t7⟩] 7
/-- the answer r, and the flags' new worths -/
def FlagP (w : World) (κ : KT) (fd : Addr) (rest : Led) (r cf pf af zf sf of df : Int) : Value → Led → Prop := fun v n' => ∃ t t1 t2 t3 t4 t5 t6 t7, v = .int r t ∧ n' = (fd, flagsD w κ cf pf af zf sf of df t1 t2 t3 t4 t5 t6 t7) :: rest
theorem szp_c {w : World} {κ : KT} {fa fd : Addr} {rest : Led} {cf pf af zf sf of df : Int} {t1 t2 t3 t4 t5 t6 t7 : Tok} {x size : Int} {tx ts : Tok} (hm : (fa, instObj 176 fd) ∈ rest) (hr : ∀ p ∈ rest, p.1 ≠ fd) (h0 : 1 ≤ size) (h1 : size ≤ 64) :
    Ctr w 5 208 [.ref fa, .int x tx, .int size ts] ((fd, flagsD w κ cf pf af zf sf of df t1 t2 t3 t4 t5 t6 t7) :: rest)
      (FlagP w κ fd rest (x % 2 ^ size.toNat) cf (even8 (x % 2 ^ size.toNat)) af (dZ (x % 2 ^ size.toNat)) (dS (x % 2 ^ size.toNat) (2 ^ size.toNat)) of df) := by
  unfold Ctr
  k_fill
  intro p loose mean mg mb dp un gd cn cs a ccd cl outer A₀ base h₀ L m s Q E B F X N T hk hd hu hret
  refine wpAny_call ?_
  k_dflt ktr_enter
  k_steps
  rw [← sf_top (wh h0) (kbt_pos _) (Int.emod_nonneg _ (Int.ne_of_gt (kbt_pos _))) (Int.emod_lt_of_pos _ (kbt_pos _)), ← dZ_eq] at hret
  exact hret _ _ _ _ ⟨_, _, _, _, _, _, _, _, rfl, rfl⟩ (by k_asm) (by k_asm)
end Mine
namespace Mine
def FlagU (r : Int) (news' : Tok → Tok → Tok → Tok → Tok → Tok → Tok → Led) : Value → Led → Prop := fun v n' => ∃ t t1 t2 t3 t4 t5 t6 t7, v = .int r t ∧ n' = news' t1 t2 t3 t4 t5 t6 t7
-- USE
theorem useFlag {w : World} {d : Nat} {f : Addr} {vs : List Value} {news : Led} {p : Program} {loose : List Str} {mean : ExcName → Option Value} {mg mb : Str → Option Value} {dp un : Nat} {gd : Option (List Code)} {cn : Str} {cs : Scope} {a : Addr} {ccd : Value} {cl : List (Str × Addr)} {outer : List Env} {A₀ : Around} {base h₀ : Heap} {L : Addr} {m : Str → Option Value} {s : Shared} {Q E : Value → Shared → Prop} {r : Int} {news' : Tok → Tok → Tok → Tok → Tok → Tok → Tok → Led} (C : Ctr w d f vs news (FlagU r news')) (B : Below A₀ base outer h₀) (F : Fr h₀ L s.heap m) (X : (Mine.mk.heap_1 w.params).In h₀) (N : News h₀ L s.heap news) (T : Top p loose mean mg mb h₀) (hk : cs.kind = .function) (hd : dp + d < recursionLimit) (hu : un + 8 * d < cLine)
    (h : ∀ t t1 t2 t3 t4 t5 t6 t7 h' tk', Fr h₀ L h' m → News h₀ L h' (news' t1 t2 t3 t4 t5 t6 t7) → Q (.int r t) { s with heap := h', toks := tk' }) : wpAny (model PySem.Challenge.rw_pq0794_01.row.prog w) (ktrTop dp un gd cn cs L a ccd cl outer) (call (.ref f) vs) Q E s :=
  use C B F X N T hk hd hu (by rintro v n' h' tk' ⟨t, t1, t2, t3, t4, t5, t6, t7, rfl, rfl⟩ F' N'; exact h t t1 t2 t3 t4 t5 t6 t7 h' tk' F' N')
-- END USE
theorem flag_u {w : World} {k : Nat} {f : Addr} {vs : List Value} {κ : KT} {fd : Addr} {news : Led} {cf pf af zf sf of df : Int} {t1 t2 t3 t4 t5 t6 t7 : Tok} {r cf' pf' af' zf' sf' of' df' : Int} {news' : Tok → Tok → Tok → Tok → Tok → Tok → Tok → Led}
    (U : ∀ s1 s2 s3 s4 s5 s6 s7, Upd fd (flagsD w κ cf pf af zf sf of df t1 t2 t3 t4 t5 t6 t7) (flagsD w κ cf' pf' af' zf' sf' of' df' s1 s2 s3 s4 s5 s6 s7) news (news' s1 s2 s3 s4 s5 s6 s7))
    (C : Ctr w k f vs ((fd, flagsD w κ cf pf af zf sf of df t1 t2 t3 t4 t5 t6 t7) :: news.filter (fun p => decide (p.1 ≠ fd))) (FlagP w κ fd (news.filter (fun p => decide (p.1 ≠ fd))) r cf' pf' af' zf' sf' of' df')) : Ctr w k f vs news (FlagU r news') := by
  have D := ctr_upd (w := w) (k := k) (f := f) (vs := vs) (β := Tok × Tok × Tok × Tok × Tok × Tok × Tok) (o := flagsD w κ cf pf af zf sf of df t1 t2 t3 t4 t5 t6 t7) (o' := fun x => flagsD w κ cf' pf' af' zf' sf' of' df' x.1 x.2.1 x.2.2.1 x.2.2.2.1 x.2.2.2.2.1 x.2.2.2.2.2.1 x.2.2.2.2.2.2)
    (news' := fun x => news' x.1 x.2.1 x.2.2.1 x.2.2.2.1 x.2.2.2.2.1 x.2.2.2.2.2.1 x.2.2.2.2.2.2) (R := fun v _ => ∃ t, v = .int r t) (fun x => U _ _ _ _ _ _ _) ⟨(0, 0, 0, 0, 0, 0, 0)⟩
    (ctr_mono C (by rintro v n' ⟨t, s1, s2, s3, s4, s5, s6, s7, e, e'⟩; exact ⟨(s1, s2, s3, s4, s5, s6, s7), ⟨t, e⟩, e'⟩))
  exact ctr_mono D (by rintro v n' ⟨⟨s1, s2, s3, s4, s5, s6, s7⟩, ⟨t, e⟩, e'⟩; exact ⟨t, s1, s2, s3, s4, s5, s6, s7, e, e'⟩)
theorem mem_filter {d : Addr} {q : Addr × Obj} {news : Led} (h : q ∈ news) (hne : q.1 ≠ d) : q ∈ news.filter (fun p => decide (p.1 ≠ d)) := List.mem_filter.mpr ⟨h, by simpa using hne⟩
end Mine
namespace Mine
theorem add_c {w : World} {κ : KT} {fa fd : Addr} {rest : Led} {cf pf af zf sf of df : Int} {t1 t2 t3 t4 t5 t6 t7 : Tok} {x y c size : Int} {tx ty tc ts : Tok} (hm : (fa, instObj 176 fd) ∈ rest) (hr : ∀ p ∈ rest, p.1 ≠ fd) (h0 : 1 ≤ size) (h1 : size ≤ 64) (c0 : 0 ≤ c) (c1 : c ≤ 1) :
    Ctr w 6 215 [.ref fa, .int x tx, .int y ty, .int c tc, .int size ts] ((fd, flagsD w κ cf pf af zf sf of df t1 t2 t3 t4 t5 t6 t7) :: rest)
      (FlagP w κ fd rest (dR (x % 2 ^ size.toNat) (y % 2 ^ size.toNat) c (2 ^ size.toNat) 1) (dC (x % 2 ^ size.toNat) (y % 2 ^ size.toNat) c (2 ^ size.toNat) 1) (even8 (dR (x % 2 ^ size.toNat) (y % 2 ^ size.toNat) c (2 ^ size.toNat) 1))
        (dA (x % 2 ^ size.toNat) (y % 2 ^ size.toNat) c 1) (dZ (dR (x % 2 ^ size.toNat) (y % 2 ^ size.toNat) c (2 ^ size.toNat) 1)) (dS (dR (x % 2 ^ size.toNat) (y % 2 ^ size.toNat) c (2 ^ size.toNat) 1) (2 ^ size.toNat)) (dO (x % 2 ^ size.toNat) (y % 2 ^ size.toNat) c (2 ^ size.toNat) 1) df) := by
  unfold Ctr
  k_fill
  intro p loose mean mg mb dp un gd cn cs a ccd cl outer A₀ base h₀ L m s Q E B F X N T hk hd hu hret
  have hne := hr _ hm
  refine wpAny_call ?_
  k_dflt ktr_enter
  k_steps
  have hW := kbt_pos size.toNat
  have x0 := Int.emod_nonneg x (Int.ne_of_gt hW)
  have x1 := Int.emod_lt_of_pos x hW
  have y0 := Int.emod_nonneg y (Int.ne_of_gt hW)
  have y1 := Int.emod_lt_of_pos y hW
  rw [← add_cf (wh h0) (kbt_pos _) x0 x1 y0 y1 c0 c1, ← add_of (wh h0) (kbt_pos _) x0 x1 y0 y1 c0 c1, ← add_r, ← add_af c0 c1, ← xor_bit, ← xor_bit, ← and_bit, ← bitAnd_m4, ← bitAnd_m4, show (16 : Int) = 2 ^ Int.toNat 4 from by decide, ← Int.fdiv_eq_ediv_of_nonneg _ (Int.le_of_lt hW), ← Int.fdiv_eq_ediv_of_nonneg _ (show (0 : Int) ≤ 2 ^ Int.toNat 4 by decide)] at hret
  exact hret _ _ _ _ ⟨_, _, _, _, _, _, _, _, rfl, rfl⟩ (by k_asm) (ndrop (by k_asm) (by kcj_all))
end Mine
namespace Mine
theorem sub_c {w : World} {κ : KT} {fa fd : Addr} {rest : Led} {cf pf af zf sf of df : Int} {t1 t2 t3 t4 t5 t6 t7 : Tok} {x y c size : Int} {tx ty tc ts : Tok} (hm : (fa, instObj 176 fd) ∈ rest) (hr : ∀ p ∈ rest, p.1 ≠ fd) (h0 : 1 ≤ size) (h1 : size ≤ 64) (c0 : 0 ≤ c) (c1 : c ≤ 1) :
    Ctr w 6 222 [.ref fa, .int x tx, .int y ty, .int c tc, .int size ts] ((fd, flagsD w κ cf pf af zf sf of df t1 t2 t3 t4 t5 t6 t7) :: rest)
      (FlagP w κ fd rest (dR (x % 2 ^ size.toNat) (y % 2 ^ size.toNat) c (2 ^ size.toNat) (-1)) (dC (x % 2 ^ size.toNat) (y % 2 ^ size.toNat) c (2 ^ size.toNat) (-1)) (even8 (dR (x % 2 ^ size.toNat) (y % 2 ^ size.toNat) c (2 ^ size.toNat) (-1)))
        (dA (x % 2 ^ size.toNat) (y % 2 ^ size.toNat) c (-1)) (dZ (dR (x % 2 ^ size.toNat) (y % 2 ^ size.toNat) c (2 ^ size.toNat) (-1))) (dS (dR (x % 2 ^ size.toNat) (y % 2 ^ size.toNat) c (2 ^ size.toNat) (-1)) (2 ^ size.toNat)) (dO (x % 2 ^ size.toNat) (y % 2 ^ size.toNat) c (2 ^ size.toNat) (-1)) df) := by
  unfold Ctr
  k_fill
  intro p loose mean mg mb dp un gd cn cs a ccd cl outer A₀ base h₀ L m s Q E B F X N T hk hd hu hret
  have hne := hr _ hm
  refine wpAny_call ?_
  k_dflt ktr_enter
  k_steps
  have hW := kbt_pos size.toNat
  have x0 := Int.emod_nonneg x (Int.ne_of_gt hW)
  have x1 := Int.emod_lt_of_pos x hW
  have y0 := Int.emod_nonneg y (Int.ne_of_gt hW)
  have y1 := Int.emod_lt_of_pos y hW
  rw [← sub_cf (wh h0) (kbt_pos _) x0 x1 y0 y1 c0 c1, ← sub_of (wh h0) (kbt_pos _) x0 x1 y0 y1 c0 c1, ← sub_r, ← sub_af c0 c1, ← xor_bit, ← xor_bit, ← and_bit, ← bitAnd_m4, ← bitAnd_m4, ← dec_ite (p := _ - Builtin.bitAnd _ _ - _ < 0), ← dec_ite (p := x % _ - y % _ - _ < 0)] at hret
  exact hret _ _ _ _ ⟨_, _, _, _, _, _, _, _, rfl, rfl⟩ (by k_asm) (ndrop (by k_asm) (by kcj_all))
end Mine
namespace Mine
theorem logic_c {w : World} {κ : KT} {fa fd : Addr} {rest : Led} {cf pf af zf sf of df : Int} {t1 t2 t3 t4 t5 t6 t7 : Tok} {x size : Int} {tx ts : Tok} (hm : (fa, instObj 176 fd) ∈ rest) (hr : ∀ p ∈ rest, p.1 ≠ fd) (h0 : 1 ≤ size) (h1 : size ≤ 64) :
    Ctr w 6 229 [.ref fa, .int x tx, .int size ts] ((fd, flagsD w κ cf pf af zf sf of df t1 t2 t3 t4 t5 t6 t7) :: rest) (FlagP w κ fd rest (x % 2 ^ size.toNat) 0 (even8 (x % 2 ^ size.toNat)) 0 (dZ (x % 2 ^ size.toNat)) (dS (x % 2 ^ size.toNat) (2 ^ size.toNat)) 0 df) := by
  unfold Ctr
  k_fill
  intro p loose mean mg mb dp un gd cn cs a ccd cl outer A₀ base h₀ L m s Q E B F X N T hk hd hu hret
  have hne := hr _ hm
  refine wpAny_call ?_
  k_dflt ktr_enter
  k_steps
  exact hret _ _ _ _ ⟨_, _, _, _, _, _, _, _, rfl, rfl⟩ (by k_asm) (ndrop (by k_asm) (by kcj_all))
theorem inc_c {w : World} {κ : KT} {fa fd : Addr} {rest : Led} {cf pf af zf sf of df : Int} {t1 t2 t3 t4 t5 t6 t7 : Tok} {x size : Int} {tx ts : Tok} (hm : (fa, instObj 176 fd) ∈ rest) (hr : ∀ p ∈ rest, p.1 ≠ fd) (h0 : 1 ≤ size) (h1 : size ≤ 64) :
    Ctr w 7 236 [.ref fa, .int x tx, .int size ts] ((fd, flagsD w κ cf pf af zf sf of df t1 t2 t3 t4 t5 t6 t7) :: rest) (FlagP w κ fd rest (dR (x % 2 ^ size.toNat) 1 0 (2 ^ size.toNat) 1) cf (even8 (dR (x % 2 ^ size.toNat) 1 0 (2 ^ size.toNat) 1)) (dA (x % 2 ^ size.toNat) 1 0 1) (dZ (dR (x % 2 ^ size.toNat) 1 0 (2 ^ size.toNat) 1)) (dS (dR (x % 2 ^ size.toNat) 1 0 (2 ^ size.toNat) 1) (2 ^ size.toNat)) (dO (x % 2 ^ size.toNat) 1 0 (2 ^ size.toNat) 1) df) := by
  unfold Ctr
  k_fill
  intro p loose mean mg mb dp un gd cn cs a ccd cl outer A₀ base h₀ L m s Q E B F X N T hk hd hu hret
  have hne := hr _ hm
  refine wpAny_call ?_
  k_dflt ktr_enter
  k_steps
  (try rw [one_mod h0])
  (rename News _ _ _ _ => NN)
  (try simp only [one_mod h0] at NN)
  exact hret _ _ _ _ ⟨_, _, _, _, _, _, _, _, rfl, rfl⟩ (by k_asm) (ndrop NN (by kcj_all))
theorem dec_c {w : World} {κ : KT} {fa fd : Addr} {rest : Led} {cf pf af zf sf of df : Int} {t1 t2 t3 t4 t5 t6 t7 : Tok} {x size : Int} {tx ts : Tok} (hm : (fa, instObj 176 fd) ∈ rest) (hr : ∀ p ∈ rest, p.1 ≠ fd) (h0 : 1 ≤ size) (h1 : size ≤ 64) :
    Ctr w 7 243 [.ref fa, .int x tx, .int size ts] ((fd, flagsD w κ cf pf af zf sf of df t1 t2 t3 t4 t5 t6 t7) :: rest) (FlagP w κ fd rest (dR (x % 2 ^ size.toNat) 1 0 (2 ^ size.toNat) (-1)) cf (even8 (dR (x % 2 ^ size.toNat) 1 0 (2 ^ size.toNat) (-1))) (dA (x % 2 ^ size.toNat) 1 0 (-1)) (dZ (dR (x % 2 ^ size.toNat) 1 0 (2 ^ size.toNat) (-1))) (dS (dR (x % 2 ^ size.toNat) 1 0 (2 ^ size.toNat) (-1)) (2 ^ size.toNat)) (dO (x % 2 ^ size.toNat) 1 0 (2 ^ size.toNat) (-1)) df) := by
  unfold Ctr
  k_fill
  intro p loose mean mg mb dp un gd cn cs a ccd cl outer A₀ base h₀ L m s Q E B F X N T hk hd hu hret
  have hne := hr _ hm
  refine wpAny_call ?_
  k_dflt ktr_enter
  k_steps
  (try rw [one_mod h0])
  (rename News _ _ _ _ => NN)
  (try simp only [one_mod h0] at NN)
  exact hret _ _ _ _ ⟨_, _, _, _, _, _, _, _, rfl, rfl⟩ (by k_asm) (ndrop NN (by kcj_all))
theorem neg_c {w : World} {κ : KT} {fa fd : Addr} {rest : Led} {cf pf af zf sf of df : Int} {t1 t2 t3 t4 t5 t6 t7 : Tok} {x size : Int} {tx ts : Tok} (hm : (fa, instObj 176 fd) ∈ rest) (hr : ∀ p ∈ rest, p.1 ≠ fd) (h0 : 1 ≤ size) (h1 : size ≤ 64) :
    Ctr w 7 250 [.ref fa, .int x tx, .int size ts] ((fd, flagsD w κ cf pf af zf sf of df t1 t2 t3 t4 t5 t6 t7) :: rest) (FlagP w κ fd rest (dR 0 (x % 2 ^ size.toNat) 0 (2 ^ size.toNat) (-1)) (dC 0 (x % 2 ^ size.toNat) 0 (2 ^ size.toNat) (-1)) (even8 (dR 0 (x % 2 ^ size.toNat) 0 (2 ^ size.toNat) (-1))) (dA 0 (x % 2 ^ size.toNat) 0 (-1)) (dZ (dR 0 (x % 2 ^ size.toNat) 0 (2 ^ size.toNat) (-1))) (dS (dR 0 (x % 2 ^ size.toNat) 0 (2 ^ size.toNat) (-1)) (2 ^ size.toNat)) (dO 0 (x % 2 ^ size.toNat) 0 (2 ^ size.toNat) (-1)) df) := by
  unfold Ctr
  k_fill
  intro p loose mean mg mb dp un gd cn cs a ccd cl outer A₀ base h₀ L m s Q E B F X N T hk hd hu hret
  have hne := hr _ hm
  refine wpAny_call ?_
  k_dflt ktr_enter
  k_steps
  (try rw [Int.zero_emod])
  (rename News _ _ _ _ => NN)
  (try simp only [Int.zero_emod] at NN)
  exact hret _ _ _ _ ⟨_, _, _, _, _, _, _, _, rfl, rfl⟩ (by k_asm) (ndrop NN (by kcj_all))
end Mine
namespace Mine
def names16 : List Str := [⟨#[111]⟩, ⟨#[110, 111]⟩, ⟨#[98]⟩, ⟨#[97, 101]⟩, ⟨#[101]⟩, ⟨#[110, 101]⟩, ⟨#[98, 101]⟩, ⟨#[97]⟩, ⟨#[115]⟩, ⟨#[110, 115]⟩, ⟨#[112]⟩, ⟨#[110, 112]⟩, ⟨#[108]⟩, ⟨#[103, 101]⟩, ⟨#[108, 101]⟩, ⟨#[103]⟩]
/-- a fresh list that holds the texts ys -/
def StrListP (ys : List Str) (news : Led) : Value → Led → Prop := fun v n' => ∃ D l, v = .ref D ∧ l.map (·.1) = ys ∧ (∀ p ∈ news, p.1 < D) ∧ n' = (D, listOf (strValues l).toArray 0) :: news
-- USE
theorem useStrs {w : World} {d : Nat} {f : Addr} {vs : List Value} {news : Led} {p : Program} {loose : List Str} {mean : ExcName → Option Value} {mg mb : Str → Option Value} {dp un : Nat} {gd : Option (List Code)} {cn : Str} {cs : Scope} {a : Addr} {ccd : Value} {cl : List (Str × Addr)} {outer : List Env} {A₀ : Around} {base h₀ : Heap} {L : Addr} {m : Str → Option Value} {s : Shared} {Q E : Value → Shared → Prop} {ys : List Str} (C : Ctr w d f vs news (StrListP ys news)) (B : Below A₀ base outer h₀) (F : Fr h₀ L s.heap m) (X : (Mine.mk.heap_1 w.params).In h₀) (N : News h₀ L s.heap news) (T : Top p loose mean mg mb h₀) (hk : cs.kind = .function) (hd : dp + d < recursionLimit) (hu : un + 8 * d < cLine)
    (h : ∀ (D : Addr) (l : List (Str × Tok)) h' tk', l.map (·.1) = ys → StrsAre (strValues l) ys → (∀ p ∈ news, p.1 < D) → Fr h₀ L h' m → News h₀ L h' ((D, listOf (strValues l).toArray 0) :: news) → Q (.ref D) { s with heap := h', toks := tk' }) : wpAny (model PySem.Challenge.rw_pq0794_01.row.prog w) (ktrTop dp un gd cn cs L a ccd cl outer) (call (.ref f) vs) Q E s :=
  use C B F X N T hk hd hu (by rintro v n' h' tk' ⟨D, l, rfl, q1, q2, rfl⟩ F' N'; exact h D l h' tk' q1 (by have s9 := strsAre_of_values l; rw [q1] at s9; exact s9) q2 F' N')
-- END USE
theorem cn_c {w : World} {news : Led} : Ctr w 2 103 [] news (StrListP names16 news) := by
  unfold Ctr
  k_fill
  intro p loose mean mg mb dp un gd cn cs a ccd cl outer A₀ base h₀ L m s Q E B F X N T hk hd hu hret
  refine wpAny_call ?_
  k_dflt ktr_enter
  k_steps
  (rename List.map _ _ = _ => e)
  exact hret _ _ _ _ ⟨_, _, rfl, e, by assumption, rfl⟩ (by k_asm) (by k_asm)
section
variable {prog : Program} {w : World} {A : Around} {E : Value → Shared → Prop} {s : Shared} {h₀ : Heap} {L D : Addr} {m : Str → Option Value} {news : Led}
theorem strs_len : ∀ {vs : List Value} {ys : List Str}, StrsAre vs ys → vs.length = ys.length
  | _, _, .nil => rfl
  | _, _, .cons _ _ h => by rw [List.length_cons, List.length_cons, strs_len h]
theorem strs_at {k : Str} : ∀ {vs : List Value} {ys : List Str}, StrsAre vs ys → ∀ (j : Nat) (h1 : j < vs.length) (h2 : j < ys.length), isStrOf k vs[j] = (ys[j] == k)
  | _, _, .nil, j, h1, _ => absurd h1 (Nat.not_lt_zero _)
  | _, _, .cons y t h, 0, _, _ => rfl
  | _, _, .cons y t h, j + 1, h1, h2 => strs_at h j (Nat.lt_of_succ_lt_succ h1) (Nat.lt_of_succ_lt_succ h2)
theorem idx_ne {k : Str} : ∀ (ys : List Str) (i : Nat), i < ys.idxOf k → ∀ h : i < ys.length, ys[i] ≠ k
  | y :: r, i, hlt, h => by
    by_cases e : y = k
    · subst e
      simp at hlt
    · have e2 : (y :: r).idxOf k = r.idxOf k + 1 := by rw [List.idxOf_cons, beq_eq_false_iff_ne.mpr e]; rfl
      rw [e2] at hlt
      cases i with
      | zero => exact e
      | succ i => exact idx_ne r i (Nat.lt_of_succ_lt_succ hlt) (Nat.lt_of_succ_lt_succ h)
theorem sindex {vs : List Value} {ys : List Str} {n : Nat} {k : Str} {t : Tok} {Q : Value → Shared → Prop} (N : News h₀ L s.heap news) (hm : (D, listOf vs.toArray n) ∈ news) (hi : StrsAre vs ys) (hk : k ∈ ys) (hz : ys.length ≤ 1000)
    (h : Q (.int (ys.idxOf k : Nat) s.toks) { s with toks := s.toks + 1 }) : wpAny (model prog w) A (call (.builtin "list.index") [.ref D, .str k t]) Q E s := by
  have hl := strs_len hi
  have hj : ys.idxOf k < ys.length := List.idxOf_lt_length_iff.mpr hk
  refine call_meets PySem.F.slot_list_index ⟨_, (N _ hm).1, rfl⟩ PySem.F.entry_list_index (PySem.F.args_list_index_2 _ _)
    (MeetsSeq.list_index D vs.toArray n (.str k t) (isStrOf k) (fun y hy => eq_isStrOf k t hi y (by simpa using hy)) (ys.idxOf k) (by rw [List.size_toArray, hl]; exact hj) (by omega) ?_ (fun i hi' hlt => ?_)) ⟨(N _ hm).1, h⟩
  · show isStrOf k vs[ys.idxOf k] = true
    rw [strs_at hi _ (by omega) hj]
    simp
  · show isStrOf k vs[i] = false
    rw [strs_at hi i (by simpa using hi') (by omega)]
    exact beq_eq_false_iff_ne.mpr (idx_ne ys _ hlt _)
end
theorem nth2 {x p q : Str} {l : List (Str × Tok)} {b : Bool} (e : l.map (·.1) = [p, q]) : ∃ t, (strValues l)[(if b = true then (0 : Int) else 1).toNat]? = some (.str (if b = true then p else q) t) := by
  obtain ⟨t, l1, rfl, e1⟩ := KSpl.cons_of e
  obtain ⟨t2, l2, rfl, e2⟩ := KSpl.cons_of e1
  cases b with
  | true => exact ⟨t, rfl⟩
  | false => exact ⟨t2, rfl⟩
theorem sub01 {prog : Program} {w : World} {A : Around} {E : Value → Shared → Prop} {s : Shared} {h₀ : Heap} {L D : Addr} {news : Led} {l : List (Str × Tok)} {n : Nat} {p q : Str} {b : Bool} {u : Tok} {value slice : PySem.Expr} {Q : Value → Shared → Prop} (N : News h₀ L s.heap news) (hm : (D, listOf (strValues l).toArray n) ∈ news)
    (e : l.map (·.1) = [p, q]) (h : ∀ t, Q (.str (if b = true then p else q) t) s)
    (hs : subscripted slice false (.ref D) (.int (if b = true then 0 else 1) u) = operate [.ref D, .int (if b = true then 0 else 1) u] (getItem (.ref D) (.int (if b = true then 0 else 1) u)) := by with_unfolding_all rfl) :
    wpAny (model prog w) A (subscriptTail value slice (.ref D) (.int (if b = true then 0 else 1) u)) Q E s := by
  obtain ⟨t, ht⟩ := nth2 (x := p) (b := b) e
  have hl : s.heap.IsList D (strValues l).toArray := PySem.IsL.isList (n := n) (N _ hm).1
  exact tail_any hl.typeIs slot_list_getitem.lookup (wpAny_getItem_list hl (by cases b <;> decide) (by cases b <;> decide) (by simpa using ht) (h t)) hs
end Mine
namespace Mine
theorem cnum_c {w : World} {news : Led} {nm : Str} {tn : Tok} (hin : nm ∈ names16) :
    Ctr w 3 187 [.str nm tn] news (IntP (names16.idxOf nm : Nat) news) := by
  unfold Ctr
  k_fill
  intro p loose mean mg mb dp un gd cn cs a ccd cl outer A₀ base h₀ L m s Q E B F X N T hk hd hu hret
  refine wpAny_call ?_
  k_dflt ktr_enter
  k_steps
  · exact hret _ _ _ _ ⟨⟨_, rfl⟩, rfl⟩ (by k_asm) (ndrop (by k_asm) (by kcj_all))
  · exfalso
    have h2 : names16.any (· == nm) = true := List.any_eq_true.mpr ⟨nm, hin, by simp⟩
    (rename List.any _ _ = false => hf)
    rw [h2] at hf
    cases hf
/-- the truth of the condition of the number n -/
def hpair (n cf pf zf sf of : Int) : Bool :=
  if n = 0 then of == 1 else if n = 1 then cf == 1 else if n = 2 then zf == 1 else if n = 3 then cf == 1 || zf == 1 else if n = 4 then sf == 1 else if n = 5 then pf == 1 else if n = 6 then sf != of else zf == 1 || sf != of
def hspec (n cf pf zf sf of : Int) : Bool := if n % 2 = 0 then hpair (n / 2) cf pf zf sf of else !hpair (n / 2) cf pf zf sf of
def BoolP (b : Bool) (news : Led) : Value → Led → Prop := fun v n' => v = .bool b ∧ news = n'
-- USE
theorem useBool {w : World} {d : Nat} {f : Addr} {vs : List Value} {news : Led} {p : Program} {loose : List Str} {mean : ExcName → Option Value} {mg mb : Str → Option Value} {dp un : Nat} {gd : Option (List Code)} {cn : Str} {cs : Scope} {a : Addr} {ccd : Value} {cl : List (Str × Addr)} {outer : List Env} {A₀ : Around} {base h₀ : Heap} {L : Addr} {m : Str → Option Value} {s : Shared} {Q E : Value → Shared → Prop} {b : Bool} (C : Ctr w d f vs news (BoolP b news)) (B : Below A₀ base outer h₀) (F : Fr h₀ L s.heap m) (X : (Mine.mk.heap_1 w.params).In h₀) (N : News h₀ L s.heap news) (T : Top p loose mean mg mb h₀) (hk : cs.kind = .function) (hd : dp + d < recursionLimit) (hu : un + 8 * d < cLine)
    (h : ∀ h' tk', Fr h₀ L h' m → News h₀ L h' news → Q (.bool b) { s with heap := h', toks := tk' }) : wpAny (model PySem.Challenge.rw_pq0794_01.row.prog w) (ktrTop dp un gd cn cs L a ccd cl outer) (call (.ref f) vs) Q E s :=
  use C B F X N T hk hd hu (by rintro v n' h' tk' ⟨rfl, rfl⟩ F' N'; exact h h' tk' F' N')
-- END USE
end Mine
namespace Mine
def hpairR (n cf pf zf sf of : Int) : Bool :=
  if n.fdiv (2 ^ Int.toNat 1) = 0 then of == 1 else if n.fdiv (2 ^ Int.toNat 1) = 1 then cf == 1 else if n.fdiv (2 ^ Int.toNat 1) = 2 then zf == 1 else if n.fdiv (2 ^ Int.toNat 1) = 3 then cf == 1 || zf == 1 else if n.fdiv (2 ^ Int.toNat 1) = 4 then sf == 1 else if n.fdiv (2 ^ Int.toNat 1) = 5 then pf == 1 else if n.fdiv (2 ^ Int.toNat 1) = 6 then sf != of else zf == 1 || sf != of
def hspecR (n cf pf zf sf of : Int) : Bool := if Builtin.bitAnd n 1 = 0 then hpairR n cf pf zf sf of else !hpairR n cf pf zf sf of
theorem hspec_raw (n cf pf zf sf of : Int) : hspec n cf pf zf sf of = hspecR n cf pf zf sf of := by
  unfold hspec hspecR hpair hpairR
  rw [bitAnd_m1, Int.fdiv_eq_ediv_of_nonneg n (show (0 : Int) ≤ 2 ^ Int.toNat 1 by decide)]
  rfl
theorem or_tt {a : Int} (h : a = 1) (c : Bool) : (a == 1) = (a == 1 || c) := by subst h; simp
theorem or_ff {a : Int} (h : a ≠ 1) (c : Bool) : c = (a == 1 || c) := by simp [h]
theorem hnum_c {w : World} {κ : KT} {fa fd : Addr} {news : Led} {cf pf af zf sf of df : Int} {t1 t2 t3 t4 t5 t6 t7 : Tok} {n : Int} {tn : Tok} (hm : (fa, instObj 176 fd) ∈ news) (hm2 : (fd, flagsD w κ cf pf af zf sf of df t1 t2 t3 t4 t5 t6 t7) ∈ news) :
    Ctr w 1 194 [.ref fa, .int n tn] news (BoolP (hspec n cf pf zf sf of) news) := by
  rw [hspec_raw]
  unfold Ctr
  k_fill
  intro p loose mean mg mb dp un gd cn cs a ccd cl outer A₀ base h₀ L m s Q E B F X N T hk hd hu hret
  refine wpAny_call ?_
  k_dflt ktr_enter
  k_steps
  all_goals (refine hret _ _ _ _ ⟨congrArg Value.bool ?_, rfl⟩ (by k_asm) (by k_asm); unfold hspecR hpairR; (repeat (first | rw [if_pos (by assumption)] | rw [if_neg (by assumption)])); first | done | rfl | exact or_tt (a := cf) (by assumption) _ | exact congrArg not (or_tt (a := cf) (by assumption) _) | exact or_ff (a := cf) (by assumption) _ | exact congrArg not (or_ff (a := cf) (by assumption) _) | exact or_tt (a := zf) (by assumption) _ | exact congrArg not (or_tt (a := zf) (by assumption) _) | exact or_ff (a := zf) (by assumption) _ | exact congrArg not (or_ff (a := zf) (by assumption) _))
end Mine
namespace Mine
theorem holds_c {w : World} {κ : KT} {fa fd : Addr} {news : Led} {cf pf af zf sf of df : Int} {t1 t2 t3 t4 t5 t6 t7 : Tok} {nm : Str} {tn : Tok} (hm : (fa, instObj 176 fd) ∈ news) (hm2 : (fd, flagsD w κ cf pf af zf sf of df t1 t2 t3 t4 t5 t6 t7) ∈ news) (hin : nm ∈ names16) :
    Ctr w 4 201 [.ref fa, .str nm tn] news (BoolP (hspec (names16.idxOf nm : Nat) cf pf zf sf of) news) := by
  unfold Ctr
  k_fill
  intro p loose mean mg mb dp un gd cn cs a ccd cl outer A₀ base h₀ L m s Q E B F X N T hk hd hu hret
  refine wpAny_call ?_
  k_dflt ktr_enter
  k_steps
  exact hret _ _ _ _ ⟨rfl, rfl⟩ (by k_asm) (by k_asm)
end Mine
namespace Mine
theorem signed_c {w : World} {news : Led} {x W : Int} {tx tw : Tok} (h0 : 0 ≤ x) (h1 : x ≤ 18446744073709551616) :
    Ctr w 1 285 [.int x tx, .int W tw] news (IntP (sg x W) news) := by
  unfold Ctr
  k_fill
  intro p loose mean mg mb dp un gd cn cs a ccd cl outer A₀ base h₀ L m s Q E B F X N T hk hd hu hret
  refine wpAny_call ?_
  k_dflt ktr_enter
  k_steps
  · rw [sg, if_pos (by assumption)] at hret
    exact hret _ _ _ _ ⟨⟨_, rfl⟩, rfl⟩ (by k_asm) (by k_asm)
  · rw [sg, if_neg (by assumption)] at hret
    exact hret _ _ _ _ ⟨⟨_, rfl⟩, rfl⟩ (by k_asm) (by k_asm)
theorem ne_ite (a b : Int) : (if (a != b) = true then (1 : Int) else 0) = if a = b then 0 else 1 := by by_cases h : a = b <;> simp [h]
theorem rg1 {a b l : Int} (h : a ≤ l) : (if (!decide (l < b)) = true then (1 : Int) else 0) = if a ≤ l ∧ l < b then 0 else 1 := by by_cases h2 : l < b <;> simp [h, h2]
theorem rg2 {a b l : Int} (h : ¬ a ≤ l) : (if (!decide (a ≤ l)) = true then (1 : Int) else 0) = if a ≤ l ∧ l < b then 0 else 1 := by simp [h]
theorem dS_eq (r W : Int) : (if decide (W ≤ 2 * r) = true then (1 : Int) else 0) = dS r W := by rw [dec_ite]; rfl
def DueP (x y c W way : Int) (news : Led) : Value → Led → Prop := fun v n' => ∃ D1 D2 t0 t1 t2 t3 t4 t5 t6, v = .ref D2 ∧ (∀ p ∈ news, p.1 < D1) ∧ D1 < D2 ∧
  n' = (D2, { cls := .type "tuple", data := .seq #[.int (dR x y c W way) t0, .ref D1] }) :: (D1, listOf #[.int (dC x y c W way) t1, .int (even8 (dR x y c W way)) t2, .int (dA x y c way) t3, .int (dZ (dR x y c W way)) t4, .int (dS (dR x y c W way) W) t5, .int (dO x y c W way) t6] 0) :: news
-- USE
theorem useDue {w : World} {d : Nat} {f : Addr} {vs : List Value} {news : Led} {p : Program} {loose : List Str} {mean : ExcName → Option Value} {mg mb : Str → Option Value} {dp un : Nat} {gd : Option (List Code)} {cn : Str} {cs : Scope} {a : Addr} {ccd : Value} {cl : List (Str × Addr)} {outer : List Env} {A₀ : Around} {base h₀ : Heap} {L : Addr} {m : Str → Option Value} {s : Shared} {Q E : Value → Shared → Prop} {x y c W way : Int} (C : Ctr w d f vs news (DueP x y c W way news)) (B : Below A₀ base outer h₀) (F : Fr h₀ L s.heap m) (X : (Mine.mk.heap_1 w.params).In h₀) (N : News h₀ L s.heap news) (T : Top p loose mean mg mb h₀) (hk : cs.kind = .function) (hd : dp + d < recursionLimit) (hu : un + 8 * d < cLine)
    (h : ∀ (D1 D2 : Addr) t0 t1 t2 t3 t4 t5 t6 h' tk', (∀ p ∈ news, p.1 < D1) → D1 < D2 → Fr h₀ L h' m → News h₀ L h' ((D2, { cls := .type "tuple", data := .seq #[.int (dR x y c W way) t0, .ref D1] }) :: (D1, listOf #[.int (dC x y c W way) t1, .int (even8 (dR x y c W way)) t2, .int (dA x y c way) t3, .int (dZ (dR x y c W way)) t4, .int (dS (dR x y c W way) W) t5, .int (dO x y c W way) t6] 0) :: news) → Q (.ref D2) { s with heap := h', toks := tk' }) : wpAny (model PySem.Challenge.rw_pq0794_01.row.prog w) (ktrTop dp un gd cn cs L a ccd cl outer) (call (.ref f) vs) Q E s :=
  use C B F X N T hk hd hu (by rintro v n' h' tk' ⟨D1, D2, t0, t1, t2, t3, t4, t5, t6, rfl, q1, q2, rfl⟩ F' N'; exact h D1 D2 t0 t1 t2 t3 t4 t5 t6 h' tk' q1 q2 F' N')
-- END USE
theorem lt_tail {q : Addr × Obj} {n : Led} {d e : Addr} (h : ∀ p ∈ n, p.1 < d) (he : d < e) : ∀ p ∈ n, p.1 < e := fun p hp => Nat.lt_trans (h p hp) he
end Mine
namespace Mine
theorem due_c {w : World} {news : Led} {x y c W way : Int} {tx ty tc tw tv : Tok} (x0 : 0 ≤ x) (x1 : x < W) (y0 : 0 ≤ y) (y1 : y < W) (c0 : 0 ≤ c) (c1 : c ≤ 1) (hW : W ≤ 18446744073709551616) (w0 : -1 ≤ way) (w1 : way ≤ 1) :
    Ctr w 2 297 [.int x tx, .int y ty, .int c tc, .int W tw, .int way tv] news (DueP x y c W way news) := by
  unfold Ctr
  k_fill
  intro p loose mean mg mb dp un gd cn cs a ccd cl outer A₀ base h₀ L m s Q E B F X N T hk hd hu hret
  have hWp : 0 < W := by omega
  refine wpAny_call ?_
  k_dflt ktr_enter
  k_steps
  all_goals (
    (rename News _ _ _ _ => NN)
    (rename _ < _ ∧ _ < _ ∧ AllLt _ news => hl)
    (rename _ < _ ∧ _ < _ ∧ _ < _ ∧ AllLt _ news => hl')
    rw [ne_ite, dS_eq, dZ_eq] at NN
    (first | rw [rg1 (a := 0) (b := 16) (l := x % 16 + way * (y % 16 + c)) (by assumption)] at NN | rw [rg2 (a := 0) (b := 16) (l := x % 16 + way * (y % 16 + c)) (by assumption)] at NN)
    (first | rw [rg1 (a := 0 - W / 2) (b := W / 2) (l := sg x W + way * (sg y W + c)) (by assumption)] at NN | rw [rg2 (a := 0 - W / 2) (b := W / 2) (l := sg x W + way * (sg y W + c)) (by assumption)] at NN)
    exact hret _ _ _ _ ⟨_, _, _, _, _, _, _, _, _, rfl, ktn_ltOf hl.2.2, hl'.1, rfl⟩ (by k_asm) (ndrop NN (by kcj_all)))
end Mine
namespace Mine
section
open PyProof.Rows.LCg
/-- what the element of a comprehension over pairs gives at x, y: a value of which G is so; what stood stands -/
def ZTurn (prog : Program) (w : World) (A : Around) (h₀ : Heap) (L : Addr) (m : Str → Option Value) (env : Env) (elt : PySem.Expr) (a b : Str) (scope : Scope) (cl : List (Str × Addr)) (x y : Value) (G : Value → Prop) : Prop :=
  ∀ (s : Shared) (R : Led) (C : Addr) (oC : Obj) (m₂ : Str → Option Value) (E' : Value → Shared → Prop), NsObj oC m₂ → m₂ a = some x → m₂ b = some y → Fr h₀ L s.heap m → News h₀ L s.heap ((C, oC) :: R) →
    wpAny (model prog w) A (eval elt (compEnvC scope cl C env)) (fun v s' => ∃ h' tk', s' = { s with heap := h', toks := tk' } ∧ G v ∧ Fr h₀ L h' m ∧ News h₀ L h' ((C, oC) :: R)) E' s
def ZSt (z TI TO i1 i2 l1 l2 : Addr) (xs ys : List Value) (i : Nat) (h : Heap) : Prop := IsZip h z TI TO .none ∧ IsPair h TI (.ref i1) (.ref i2) ∧ (∃ a b, IsPair h TO a b) ∧ h.IsListIter i1 l1 i ∧ h.IsListIter i2 l2 i ∧ h.IsList l1 xs.toArray ∧ h.IsList l2 ys.toArray
def ZSrc (prog : Program) (w : World) (A : Around) (h₀ : Heap) (L : Addr) (m : Str → Option Value) (env : Env) (elt : PySem.Expr) (a b : Str) (scope : Scope) (cl : List (Str × Addr)) (Q : Value → Shared → Prop) (xv : Value) (s : Shared) : Prop :=
  ∃ (z TI TO i1 i2 l1 l2 : Addr) (xs ys : List Value) (news : Led) (G : Nat → Value → Prop), xv = .ref z ∧ ZipApart z TI TO i1 i2 l1 l2 ∧ IsZip s.heap z TI TO .none ∧ IsPair s.heap TI (.ref i1) (.ref i2) ∧ (∃ u v, IsPair s.heap TO u v) ∧ s.heap.IsListIter i1 l1 0 ∧ s.heap.IsListIter i2 l2 0 ∧ s.heap.IsList l1 xs.toArray ∧ s.heap.IsList l2 ys.toArray ∧
    Fr h₀ L s.heap m ∧ News h₀ L s.heap news ∧ (∀ c ∈ [z, TI, TO, i1, i2], h₀.get? c = none ∧ c ≠ L ∧ ∀ p ∈ news, p.1 ≠ c) ∧ (∃ o, (l1, o) ∈ news) ∧ (∃ o, (l2, o) ∈ news) ∧ xs.length = ys.length ∧ xs.length ≤ 1000 ∧
    (∀ i x y, xs[i]? = some x → ys[i]? = some y → ZTurn prog w A h₀ L m env elt a b scope cl x y (G i)) ∧
    (∀ D zs h tk, zs.length = xs.length → (∀ i v, zs[i]? = some v → G i v) → Fr h₀ L h m → News h₀ L h ((D, lst zs) :: news) → (∀ p ∈ news, p.1 < D) → Q (.ref D) { s with heap := h, toks := tk })
variable {prog : Program} {w : World} {A : Around} {E : Value → Shared → Prop} {s : Shared} {h₀ : Heap} {L : Addr} {m : Str → Option Value} {env : Env}
theorem zip_comp {elt iter : PySem.Expr} {a b : Str} {pa pb tp : Pos} {kk : Nat} {scope : Scope} {cl : List (Str × Addr)} {pos : Pos} {Q : Value → Shared → Prop} (_F₀ : Fr h₀ L s.heap m) (hh : A.handled = none)
    (hclos : closureFor scope env = pure cl) (hcell : ∀ y ∈ scope.names, y.2 ≠ .cell) (hkind : scope.kind = .function)
    (hnames : ∀ y ∈ scope.names, y.2 = .local → scope.names.lookup y.1 = some .local) (hxa : scope.names.lookup a = some .local) (hxb : scope.names.lookup b = some .local) (hab : ¬ a = b)
    (h : wpAny (model prog w) A (eval iter env) (ZSrc prog w A h₀ L m env elt a b scope cl Q) E s)
    (hs : ∀ x, foldedSetIterable iter env x = pure x := by intro _; rfl) :
    wpAny (model prog w) A (eval (.ListComp elt [⟨.Tuple [.Name a pa, .Name b pb] kk tp, iter, [], 0⟩] scope pos) env) Q E s := by
  rw [eval_ListComp]
  refine wpAny_comprehension_free (use := none) rfl hs hclos hkind hnames (wpAny_mono h (fun xv s₁ h₁ => ?_) fun _ _ e => e)
  obtain ⟨z, TI, TO, i1, i2, l1, l2, xs, ys, news, G, rfl, D0, hz, hTI, hTO, hi1, hi2, hl1, hl2, F, N, off, ⟨o1, m1⟩, ⟨o2, m2⟩, hlen, hsz, turn, fin⟩ := h₁
  refine wpAny_pyIter_zip hz ?_
  refine wpAny_newObj_type (wpAny_newFunctionEnv hcell (by intro y hy; simp at hy) (fun h₁ hns₁ hsb₁ => ?_) hkind)
  dsimp only at hns₁ hsb₁ ⊢
  have hn : min xs.toArray.size ys.toArray.size = xs.length := by simp [hlen]
  have W : WalksT prog w A z [z, TI, TO, i1, i2, l1, l2] [z, TO, i1, i2] xs.length _ (fun i h => ZSt z TI TO i1 i2 l1 l2 xs ys i h) _ := hn ▸ WalksT.zip2 (prog := prog) (w := w) hh z TI TO i1 i2 l1 l2 D0 xs.toArray ys.toArray
  generalize hH2 : s₁.heap.push { cls := .type "list", dict := none, data := .seq ([] : List Value).toArray } = H2 at hns₁ hsb₁ ⊢
  have hC : H2.objs.size = s₁.heap.objs.size + 1 := by rw [← hH2, Heap.size_push]
  generalize hDa : s₁.heap.objs.size = D at *
  have hold : ∀ c o, s₁.heap.get? c = some o → c < D := fun c o e => hDa ▸ Heap.lt_size e
  have up1 : ∀ c o, s₁.heap.get? c = some o → h₁.get? c = some o := fun c o e => hsb₁.extBut c o (by rw [hC]; exact Nat.ne_of_lt (Nat.lt_succ_of_lt (hold c o e))) (Heap.get?_push_of_some _ (hH2 ▸ Heap.get?_push_of_some _ e))
  have hacc : h₁.get? D = some (lst []) := hsb₁.extBut _ _ (by rw [hC]; exact Nat.ne_of_lt (Nat.lt_succ_self _)) (Heap.get?_push_of_some _ (by rw [← hH2, ← hDa]; exact Heap.get?_push_size _ rfl))
  have hnone : ∀ c, D ≤ c → h₀.get? c = none := fun c hc => by
    cases e : h₀.get? c with
    | none => rfl
    | some o => exact absurd (hold c o (F.keep c o e)) (Nat.not_lt.mpr hc)
  have hLD : L < D := hDa ▸ F.ns.lt
  have hown : ∀ c ∈ [z, TI, TO, i1, i2], c < D := by
    intro c hc
    simp only [List.mem_cons, List.not_mem_nil, or_false] at hc
    rcases hc with rfl | rfl | rfl | rfl | rfl
    · exact hold _ _ hz
    · exact hold _ _ hTI
    · obtain ⟨u, v, e⟩ := hTO; exact hold _ _ e
    · obtain ⟨_, e, _⟩ := hi1; exact hold _ _ e
    · obtain ⟨_, e, _⟩ := hi2; exact hold _ _ e
  have hfp : ∀ c ∈ [z, TI, TO, i1, i2, l1, l2], c < D := by
    intro c hc
    simp only [List.mem_cons, List.not_mem_nil, or_false] at hc
    rcases hc with rfl | rfl | rfl | rfl | rfl | rfl | rfl
    · exact hown _ (by simp)
    · exact hown _ (by simp)
    · exact hown _ (by simp)
    · exact hown _ (by simp)
    · exact hown _ (by simp)
    · exact hold _ _ (N _ m1).1
    · exact hold _ _ (N _ m2).1
  have hCD : H2.objs.size ≠ D := by rw [hC]; exact Nat.succ_ne_self _
  have hDC : D ≠ H2.objs.size := Ne.symm hCD
  have hCfp : H2.objs.size ∉ [z, TI, TO, i1, i2, l1, l2] := fun hc => Nat.lt_irrefl _ (Nat.lt_trans (hC ▸ hfp _ hc) (Nat.lt_succ_self _))
  have hDfp : D ∉ [z, TI, TO, i1, i2, l1, l2] := fun hc => Nat.lt_irrefl _ (hfp _ hc)
  have hD₀ : h₀.get? D = none := hnone D (Nat.le_refl _)
  have hC₀ : h₀.get? H2.objs.size = none := hnone _ (by rw [hC]; exact Nat.le_succ _)
  have hDL : D ≠ L := Nat.ne_of_gt hLD
  have hCL : H2.objs.size ≠ L := by rw [hC]; exact Nat.ne_of_gt (Nat.lt_succ_of_lt hLD)
  have wr : ∀ c ∈ [z, TO, i1, i2], c ∈ [z, TI, TO, i1, i2] := by
    intro c hc
    simp only [List.mem_cons, List.not_mem_nil, or_false] at hc ⊢
    rcases hc with rfl | rfl | rfl | rfl <;> simp
  have nwr : ∀ c, (∀ e ∈ [z, TI, TO, i1, i2], e ≠ c) → c ∉ [z, TO, i1, i2] := fun c hc hm => hc c (wr c hm) rfl
  have hLwr : L ∉ [z, TO, i1, i2] := nwr L fun e he => (off e he).2.1
  have hCwr : H2.objs.size ∉ [z, TO, i1, i2] := fun hm => Nat.lt_irrefl _ (Nat.lt_trans (hC ▸ hown _ (wr _ hm)) (Nat.lt_succ_self _))
  have hDwr : D ∉ [z, TO, i1, i2] := fun hm => Nat.lt_irrefl _ (hown _ (wr _ hm))
  have h0wr : ∀ c o, h₀.get? c = some o → c ∉ [z, TO, i1, i2] := fun c o e hm => by rw [(off c (wr c hm)).1] at e; cases e
  have frOf : ∀ {h h' : Heap}, Fr h₀ L h m → (∀ c o, c ∉ [z, TO, i1, i2] → h.get? c = some o → h'.get? c = some o) → Fr h₀ L h' m := fun F hk => ⟨F.ns.at' fun o e => hk _ o hLwr e, fun c o e => hk c o (h0wr c o e) (F.keep c o e), F.above⟩
  have loop : ∀ s₃ : Shared, s₃ = { s₁ with heap := h₁, toks := s₁.toks + ([] : List (Str × Value)).length } →
      codeAny (model prog w) A (.compLoop (.ListComp elt [⟨.Tuple [.Name a pa, .Name b pb] kk tp, iter, [], 0⟩] scope pos) 0 (.ref z) (.ref D) (compEnvC scope cl H2.objs.size env))
        (compPost (model prog w) A E none Q (.ref D) H2.objs.size) s₃ := by
    rintro s₃ rfl
    refine kcp_loop (fun k s' => ∃ h' tk i zs m', s' = { s₁ with heap := h', toks := tk } ∧ i ≤ xs.length ∧ k = xs.length + 1 - i ∧ zs.length = i ∧ (∀ j v, zs[j]? = some v → G j v) ∧ ZSt z TI TO i1 i2 l1 l2 xs ys i h' ∧ Fr h₀ L h' m ∧ h'.Ns H2.objs.size m' ∧ h'.get? D = some (lst zs) ∧ News h₀ L h' news) ?_ (xs.length + 1)
      ⟨h₁, _, 0, [], _, rfl, Nat.zero_le _, rfl, rfl, fun j v e => by simp at e, ?_, F.keeps up1, hns₁, hacc, N.grown up1⟩
    · rintro k s' ⟨h', tk, i, zs, m', rfl, hi, rfl, hzl, hG, hst, F', hn', hD', N'⟩
      by_cases hlt : i < xs.length
      · refine W.item i _ _ _ hlt hst fun T vals h₂ tk₂ hP _ hT hMid hk₂ => ?_
        refine W.go _ _ _ i T _ _ _ hMid fun h₃ hst₃ hk₃ => ?_
        obtain ⟨x, y, hx, hy, rfl⟩ := hP
        have up₃ : ∀ c o, c ∉ [z, TO, i1, i2] → h'.get? c = some o → h₃.get? c = some o := fun c o hc e => hk₃ c o hc (hk₂ c o hc e)
        have hT₃ : h₃.IsTuple T #[x, y] := hT.at fun o e => hk₃ T o (W.apart i T _ hMid) e
        refine kcp_assign (env := compEnvC scope cl H2.objs.size env) hh hT₃ (lookup_relabel_local hxa) (lookup_relabel_local hxb) (by simp [compEnvC, relabel, hkind]) (hn'.at' fun o e => up₃ _ o hCwr e) fun h₄ tk₄ hn₄ hs₄ => ?_
        have up₄ : ∀ c o, c ∉ [z, TO, i1, i2] → c ≠ H2.objs.size → h'.get? c = some o → h₄.get? c = some o := fun c o h1 h2 e => hs₄ c o h2 (up₃ c o h1 e)
        have hst₄ : ZSt z TI TO i1 i2 l1 l2 xs ys (i + 1) h₄ := W.frame _ _ _ hst₃ fun c hc o e => hs₄ c o (fun q => hCfp (by have q' : c = H2.objs.size := q; rw [← q']; exact hc)) e
        obtain ⟨oC, heC, hoC⟩ := ns_obj hn₄
        have F₄ : Fr h₀ L h₄ m := ⟨F'.ns.at' fun o e => up₄ _ o hLwr (Ne.symm hCL) e, fun c o e => up₄ c o (h0wr c o e) (fun q => by rw [q, hC₀] at e; cases e) (F'.keep c o e), F'.above⟩
        have hst₄' := hst₄
        obtain ⟨g1, g2, ⟨u, v, g3⟩, g4, g5, g6, g7⟩ := hst₄'
        obtain ⟨ox4, e4, _⟩ := g4
        obtain ⟨ox5, e5, _⟩ := g5
        obtain ⟨oz, hoz⟩ : ∃ o, h₄.get? z = some o := ⟨_, g1⟩
        obtain ⟨oI, hoI⟩ : ∃ o, h₄.get? TI = some o := ⟨_, g2⟩
        obtain ⟨oO, hoO⟩ : ∃ o, h₄.get? TO = some o := ⟨_, g3⟩
        have newsC : ∀ p ∈ news, p.1 ≠ H2.objs.size ∧ p.1 ≠ D ∧ p.1 ∉ [z, TO, i1, i2] := fun p hp => by
          have hlt := hold _ _ (N p hp).1
          exact ⟨by rw [hC]; exact Nat.ne_of_lt (Nat.lt_succ_of_lt hlt), Nat.ne_of_lt hlt, nwr _ fun e he => Ne.symm ((off e he).2.2 p hp)⟩
        have N₄ : News h₀ L h₄ ((H2.objs.size, oC) :: (z, oz) :: (TI, oI) :: (TO, oO) :: (i1, ox4) :: (i2, ox5) :: (D, lst zs) :: news) := fun p hp => by
          simp only [List.mem_cons] at hp
          rcases hp with rfl | rfl | rfl | rfl | rfl | rfl | rfl | hp
          · exact ⟨heC, hCL, hC₀⟩
          · exact ⟨hoz, (off z (by simp)).2.1, (off z (by simp)).1⟩
          · exact ⟨hoI, (off TI (by simp)).2.1, (off TI (by simp)).1⟩
          · exact ⟨hoO, (off TO (by simp)).2.1, (off TO (by simp)).1⟩
          · exact ⟨e4, (off i1 (by simp)).2.1, (off i1 (by simp)).1⟩
          · exact ⟨e5, (off i2 (by simp)).2.1, (off i2 (by simp)).1⟩
          · exact ⟨up₄ _ _ hDwr hDC hD', hDL, hD₀⟩
          · exact ⟨up₄ _ _ (newsC p hp).2.2 (newsC p hp).1 (N' p hp).1, (N' p hp).2⟩
        have hx' : xs[i]? = some x := by simpa using hx
        have hy' : ys[i]? = some y := by simpa using hy
        refine wpAny_mono (turn i x y hx' hy' { s₁ with heap := h₄, toks := tk₄ } _ _ oC _ _ hoC (by simp [hab]) (by simp) F₄ N₄) (fun v s₅ h₅ => ?_) fun _ _ e => e
        obtain ⟨h₅, tk₅, rfl, hGv, F₅, N₅⟩ := h₅
        have same : ∀ c ∈ [z, TI, TO, i1, i2, l1, l2], ∀ o, h₄.get? c = some o → h₅.get? c = some o := by
          have key : ∀ c ∈ [z, TI, TO, i1, i2, l1, l2], ∃ o, (c, o) ∈ ((H2.objs.size, oC) :: (z, oz) :: (TI, oI) :: (TO, oO) :: (i1, ox4) :: (i2, ox5) :: (D, lst zs) :: news) := by
            intro c hc
            simp only [List.mem_cons, List.not_mem_nil, or_false] at hc
            rcases hc with rfl | rfl | rfl | rfl | rfl | rfl | rfl
            · exact ⟨oz, by simp⟩
            · exact ⟨oI, by simp⟩
            · exact ⟨oO, by simp⟩
            · exact ⟨ox4, by simp⟩
            · exact ⟨ox5, by simp⟩
            · exact ⟨o1, by simp [m1]⟩
            · exact ⟨o2, by simp [m2]⟩
          intro c hc o e
          obtain ⟨o', hm⟩ := key c hc
          have e1 := (N₄ _ hm).1
          rw [e] at e1
          cases e1
          exact (N₅ _ hm).1
        have hst₅ : ZSt z TI TO i1 i2 l1 l2 xs ys (i + 1) h₅ := W.frame _ _ _ hst₄ same
        have zD := (N₅ (D, lst zs) (by simp)).1
        refine append_at (hsz := by show zs.toArray.size ≤ sizeLine; rw [List.size_toArray, hzl, sizeLine_eq]; omega) zD fun h₆ hs₆ hD₆ => ?_
        refine ⟨xs.length + 1 - (i + 1), by omega, h₆, tk₅, i + 1, zs ++ [v], _, rfl, hlt, rfl, by rw [List.length_append, List.length_singleton, hzl], ?_, W.frame _ _ _ hst₅ fun c hc o e => hs₆.extBut c o (fun q => hDfp (q ▸ hc)) e, F₅.change hs₆ hDL hD₀, (hoC.ns (N₅ (H2.objs.size, oC) (by simp)).1).sameBut hs₆ hCD,
          hD₆.trans (congrArg some (lst_snoc zs v)), fun p hp => ?_⟩
        · intro j v' e
          by_cases hj : j < zs.length
          · rw [List.getElem?_append_left hj] at e
            exact hG j v' e
          · by_cases hj2 : j = zs.length
            · subst hj2
              rw [List.getElem?_append_right (Nat.le_refl _)] at e
              simp only [Nat.sub_self, List.getElem?_cons_zero, Option.some.injEq] at e
              subst e
              rw [hzl]
              exact hGv
            · rw [List.getElem?_eq_none (by rw [List.length_append, List.length_singleton]; omega)] at e
              cases e
        · have zp := N₅ p (by simp [hp])
          exact ⟨hs₆.extBut _ _ (newsC p hp).2.1 zp.1, zp.2⟩
      · have hin : i = xs.length := Nat.le_antisymm hi (Nat.not_lt.mp hlt)
        subst hin
        refine W.done _ _ _ hst fun h₂ tk₂ hk₂ => ?_
        have newsC : ∀ p ∈ news, p.1 ≠ H2.objs.size ∧ p.1 ≠ D ∧ p.1 ∉ [z, TO, i1, i2] := fun p hp => by
          have hlt := hold _ _ (N p hp).1
          exact ⟨by rw [hC]; exact Nat.ne_of_lt (Nat.lt_succ_of_lt hlt), Nat.ne_of_lt hlt, nwr _ fun e he => Ne.symm ((off e he).2.2 p hp)⟩
        refine ⟨m', hn'.at' fun o e => hk₂ _ o hCwr e, fun h'' hs'' => fin D zs h'' tk₂ hzl hG ((frOf F' hk₂).change hs'' hCL hC₀) (fun p hp => ?_) fun p hp => hold _ _ (N p hp).1⟩
        rcases List.mem_cons.mp hp with rfl | hp
        · exact ⟨hs''.extBut _ _ hDC (hk₂ _ _ hDwr hD'), hDL, hD₀⟩
        · exact ⟨hs''.extBut _ _ (newsC p hp).1 (hk₂ _ _ (newsC p hp).2.2 (N' p hp).1), (N' p hp).2⟩
    · exact W.frame _ _ _ ⟨hz, hTI, hTO, hi1, hi2, hl1, hl2⟩ fun c hc o e => up1 c o e
  exact codeAny_compStart_list (loop _ rfl) (W.self 0 _ _ _ (W.frame _ _ _ ⟨hz, hTI, hTO, hi1, hi2, hl1, hl2⟩ fun c hc o e => up1 c o e) (loop _ rfl))
theorem zip_src {elt : PySem.Expr} {a b : Str} {scope : Scope} {cl : List (Str × Addr)} {l1 l2 : Addr} {xs ys : List Value} {n1 n2 : Nat} {news : Led} {Q : Value → Shared → Prop} (G : Nat → Value → Prop) (F : Fr h₀ L s.heap m) (N : News h₀ L s.heap news)
    (hm1 : (l1, listOf xs.toArray n1) ∈ news) (hm2 : (l2, listOf ys.toArray n2) ∈ news) (hlen : xs.length = ys.length) (hsz : xs.length ≤ 1000)
    (turn : ∀ i x y, xs[i]? = some x → ys[i]? = some y → ZTurn prog w A h₀ L m env elt a b scope cl x y (G i))
    (fin : ∀ D zs h tk, zs.length = xs.length → (∀ i v, zs[i]? = some v → G i v) → Fr h₀ L h m → News h₀ L h ((D, lst zs) :: news) → (∀ p ∈ news, p.1 < D) → Q (.ref D) { s with heap := h, toks := tk }) :
    wpAny (model prog w) A (call (.type "zip") [.ref l1, .ref l2]) (ZSrc prog w A h₀ L m env elt a b scope cl Q) E s := by
  have hl1 : s.heap.IsList l1 xs.toArray := PySem.IsL.isList (n := n1) (N _ hm1).1
  have hl2 : s.heap.IsList l2 ys.toArray := PySem.IsL.isList (n := n2) (N _ hm2).1
  have lt1 : l1 < s.heap.objs.size := Heap.lt_size (N _ hm1).1
  have lt2 : l2 < s.heap.objs.size := Heap.lt_size (N _ hm2).1
  refine call_zip_2 hl1 hl2 fun h' hz hTI hTO hi1 hi2 hsize hk => ?_
  have hnew : ∀ k, h₀.get? (s.heap.objs.size + k) = none ∧ s.heap.objs.size + k ≠ L ∧ ∀ p ∈ news, p.1 ≠ s.heap.objs.size + k := fun k =>
    ⟨ktu_new F (Nat.le_add_right _ _), Nat.ne_of_gt (Nat.lt_of_lt_of_le F.ns.lt (Nat.le_add_right _ _)), fun p hp => Nat.ne_of_lt (Nat.lt_of_lt_of_le (Heap.lt_size (N p hp).1) (Nat.le_add_right _ _))⟩
  refine ⟨_, _, _, _, _, l1, l2, xs, ys, news, G, rfl, ktu_apart _ _ _ lt1 lt2, hz, hTI, ⟨_, _, hTO⟩, hi1, hi2, hl1.at fun o e => hk _ o e, hl2.at fun o e => hk _ o e, F.keeps hk, N.grown hk, ?_, ⟨_, hm1⟩, ⟨_, hm2⟩, hlen, hsz, turn, fun D zs h tk q1 q2 q3 q4 q5 => fin D zs h tk q1 q2 q3 q4 q5⟩
  intro c hc
  simp only [List.mem_cons, List.not_mem_nil, or_false] at hc
  rcases hc with rfl | rfl | rfl | rfl | rfl
  · exact hnew 4
  · exact hnew 2
  · exact hnew 3
  · exact hnew 0
  · exact hnew 1
end
end Mine
namespace Mine
def pickL : List Bool → List (Str × Str) → List Str
  | b :: bs, (p, q) :: r => (if b = true then p else q) :: pickL bs r
  | _, _ => []
inductive ZRows : List Value → List Value → List Bool → List (Str × Str) → Prop
  | nil : ZRows [] [] [] []
  | cons {xs ys : List Value} {bs : List Bool} {pq : List (Str × Str)} (nm : Str) (t : Tok) (b : Bool) (p q : Str) (hs : Txt.split nm (Str.ofString " ") = [p, q]) (hl : nm.length ≤ 100) (h : ZRows xs ys bs pq) : ZRows (.str nm t :: xs) (.bool b :: ys) (b :: bs) ((p, q) :: pq)
theorem ZRows.len {xs ys : List Value} {bs : List Bool} {pq : List (Str × Str)} (h : ZRows xs ys bs pq) : xs.length = ys.length := by
  induction h with
  | nil => rfl
  | cons _ _ _ _ _ _ _ _ ih => rw [List.length_cons, List.length_cons, ih]
theorem ZRows.at {xs ys : List Value} {bs : List Bool} {pq : List (Str × Str)} (h : ZRows xs ys bs pq) : ∀ (i : Nat) (x y : Value), xs[i]? = some x → ys[i]? = some y → ∃ nm t b p q, x = Value.str nm t ∧ y = Value.bool b ∧ Txt.split nm (Str.ofString " ") = [p, q] ∧ nm.length ≤ 100 := by
  induction h with
  | nil => intro i x y hx; simp at hx
  | cons nm t b p q hs hl _ ih =>
    intro i x y hx hy
    cases i with
    | zero =>
      simp only [List.getElem?_cons_zero, Option.some.injEq] at hx hy
      exact ⟨nm, t, b, p, q, hx.symm, hy.symm, hs, hl⟩
    | succ i => exact ih i x y (by simpa using hx) (by simpa using hy)
def Picked (x y v : Value) : Prop := ∀ nm t b p q, x = Value.str nm t → y = Value.bool b → Txt.split nm (Str.ofString " ") = [p, q] → ∃ t', v = Value.str (if b = true then p else q) t'
theorem ZRows.pick {xs ys : List Value} {bs : List Bool} {pq : List (Str × Str)} (h : ZRows xs ys bs pq) : ∀ zs : List Value, zs.length = xs.length → (∀ (i : Nat) (v : Value), zs[i]? = some v → ∀ x y : Value, xs[i]? = some x → ys[i]? = some y → Picked x y v) → StrsAre zs (pickL bs pq) := by
  induction h with
  | nil =>
    intro zs hz _
    cases zs with
    | nil => exact .nil
    | cons _ _ => cases hz
  | cons nm t b p q hs hl _ ih =>
    intro zs hz H
    cases zs with
    | nil => cases hz
    | cons v r =>
      obtain ⟨t', rfl⟩ := H 0 v rfl _ _ rfl rfl nm t b p q rfl rfl hs
      exact .cons _ _ (ih r (Nat.succ.inj hz) fun i v' e x y hx hy => H (i + 1) v' (by simpa using e) x y (by simpa using hx) (by simpa using hy))
theorem zip_strs {prog : Program} {w : World} {A : Around} {E : Value → Shared → Prop} {s : Shared} {h₀ : Heap} {L : Addr} {m : Str → Option Value} {env : Env} {elt : PySem.Expr} {a b : Str} {scope : Scope} {cl : List (Str × Addr)} {l1 l2 : Addr} {xs ys : List Value} {bs : List Bool} {pq : List (Str × Str)} {n1 n2 : Nat} {news : Led} {Q : Value → Shared → Prop}
    (F : Fr h₀ L s.heap m) (N : News h₀ L s.heap news) (hm1 : (l1, listOf xs.toArray n1) ∈ news) (hm2 : (l2, listOf ys.toArray n2) ∈ news) (hsz : xs.length ≤ 1000) (rows : ZRows xs ys bs pq)
    (turn : ∀ nm t c p q, Txt.split nm (Str.ofString " ") = [p, q] → nm.length + 2 ≤ sizeLine → ZTurn prog w A h₀ L m env elt a b scope cl (.str nm t) (.bool c) (fun v => ∃ t, v = Value.str (if c = true then p else q) t))
    (fin : ∀ D zs h tk, StrsAre zs (pickL bs pq) → Fr h₀ L h m → News h₀ L h ((D, LCg.lst zs) :: news) → (∀ p ∈ news, p.1 < D) → Q (.ref D) { s with heap := h, toks := tk }) :
    wpAny (model prog w) A (call (.type "zip") [.ref l1, .ref l2]) (ZSrc prog w A h₀ L m env elt a b scope cl Q) E s := by
  refine zip_src (fun i v => ∀ x y : Value, xs[i]? = some x → ys[i]? = some y → Picked x y v) F N hm1 hm2 rows.len hsz (fun i x y hx hy => ?_) fun D zs h tk hz hG F' N' l1 => fin D zs h tk (rows.pick zs hz hG) F' N' l1
  obtain ⟨nm, t, c, p, q, rfl, rfl, hs, hl⟩ := rows.at i x y hx hy
  have T := turn nm t c p q hs (by rw [sizeLine_eq]; omega)
  intro s R C oC m₂ E' h1 h2 h3 h4 h5
  refine wpAny_mono (T s R C oC m₂ E' h1 h2 h3 h4 h5) (fun v s' ⟨h', tk', e, ⟨t', ev⟩, F', N'⟩ => ⟨h', tk', e, ?_, F', N'⟩) fun _ _ e => e
  intro x' y' hx' hy' nm' t'' c' p' q' e1 e2 e3
  rw [hx] at hx'
  rw [hy] at hy'
  cases hx'
  cases hy'
  cases e1
  cases e2
  rw [hs] at e3
  cases e3
  exact ⟨t', ev⟩
def pq8 : List (Str × Str) := [(⟨#[111]⟩, ⟨#[110, 111]⟩), (⟨#[98]⟩, ⟨#[97, 101]⟩), (⟨#[101]⟩, ⟨#[110, 101]⟩), (⟨#[98, 101]⟩, ⟨#[97]⟩), (⟨#[115]⟩, ⟨#[110, 115]⟩), (⟨#[112]⟩, ⟨#[110, 112]⟩), (⟨#[108]⟩, ⟨#[103, 101]⟩), (⟨#[108, 101]⟩, ⟨#[103]⟩)]
def condB (x y W : Int) : List Bool := [!(decide (0 - W / 2 ≤ sg x W - sg y W) && decide (sg x W - sg y W < W / 2)), decide (x < y), x == y, decide (x ≤ y), decide (W ≤ 2 * ((x - y) % W)), even8 ((x - y) % W) == 1, decide (sg x W < sg y W), decide (sg x W ≤ sg y W)]
def CondP (x y W : Int) (news : Led) : Value → Led → Prop := fun v n' => ∃ D zs, v = .ref D ∧ StrsAre zs (pickL (condB x y W) pq8) ∧ (∀ p ∈ news, p.1 < D) ∧ n' = (D, LCg.lst zs) :: news
-- USE
theorem useCond {w : World} {d : Nat} {f : Addr} {vs : List Value} {news : Led} {p : Program} {loose : List Str} {mean : ExcName → Option Value} {mg mb : Str → Option Value} {dp un : Nat} {gd : Option (List Code)} {cn : Str} {cs : Scope} {a : Addr} {ccd : Value} {cl : List (Str × Addr)} {outer : List Env} {A₀ : Around} {base h₀ : Heap} {L : Addr} {m : Str → Option Value} {s : Shared} {Q E : Value → Shared → Prop} {x y W : Int} (C : Ctr w d f vs news (CondP x y W news)) (B : Below A₀ base outer h₀) (F : Fr h₀ L s.heap m) (X : (Mine.mk.heap_1 w.params).In h₀) (N : News h₀ L s.heap news) (T : Top p loose mean mg mb h₀) (hk : cs.kind = .function) (hd : dp + d < recursionLimit) (hu : un + 8 * d < cLine)
    (h : ∀ (D : Addr) (zs : List Value) h' tk', StrsAre zs (pickL (condB x y W) pq8) → (∀ p ∈ news, p.1 < D) → Fr h₀ L h' m → News h₀ L h' ((D, LCg.lst zs) :: news) → Q (.ref D) { s with heap := h', toks := tk' }) : wpAny (model PySem.Challenge.rw_pq0794_01.row.prog w) (ktrTop dp un gd cn cs L a ccd cl outer) (call (.ref f) vs) Q E s :=
  use C B F X N T hk hd hu (by rintro v n' h' tk' ⟨D, zs, rfl, q1, q2, rfl⟩ F' N'; exact h D zs h' tk' q1 q2 F' N')
-- END USE
theorem rows8 {t0 t1 t2 t3 t4 t5 t6 t7 : Tok} {b0 b1 b2 b3 b4 b5 b6 b7 : Bool} : ZRows [.str (Str.ofString "o no") t0, .str (Str.ofString "b ae") t1, .str (Str.ofString "e ne") t2, .str (Str.ofString "be a") t3, .str (Str.ofString "s ns") t4, .str (Str.ofString "p np") t5, .str (Str.ofString "l ge") t6, .str (Str.ofString "le g") t7]
    [.bool b0, .bool b1, .bool b2, .bool b3, .bool b4, .bool b5, .bool b6, .bool b7] [b0, b1, b2, b3, b4, b5, b6, b7] pq8 := by
  refine .cons _ _ _ _ _ (by decide +kernel) (by decide +kernel) ?_
  refine .cons _ _ _ _ _ (by decide +kernel) (by decide +kernel) ?_
  refine .cons _ _ _ _ _ (by decide +kernel) (by decide +kernel) ?_
  refine .cons _ _ _ _ _ (by decide +kernel) (by decide +kernel) ?_
  refine .cons _ _ _ _ _ (by decide +kernel) (by decide +kernel) ?_
  refine .cons _ _ _ _ _ (by decide +kernel) (by decide +kernel) ?_
  refine .cons _ _ _ _ _ (by decide +kernel) (by decide +kernel) ?_
  exact .cons _ _ _ _ _ (by decide +kernel) (by decide +kernel) .nil
end Mine
namespace Mine
theorem condB_1 {x y W : Int} (h : 0 - W / 2 ≤ sg x W - sg y W) : [!decide (sg x W - sg y W < W / 2), decide (x < y), x == y, decide (x ≤ y), decide (W ≤ 2 * ((x - y) % W)), even8 ((x - y) % W) == 1, decide (sg x W < sg y W), decide (sg x W ≤ sg y W)] = condB x y W := by
  rw [condB, decide_eq_true h, Bool.true_and]
theorem condB_2 {x y W : Int} (h : ¬0 - W / 2 ≤ sg x W - sg y W) : [!decide (0 - W / 2 ≤ sg x W - sg y W), decide (x < y), x == y, decide (x ≤ y), decide (W ≤ 2 * ((x - y) % W)), even8 ((x - y) % W) == 1, decide (sg x W < sg y W), decide (sg x W ≤ sg y W)] = condB x y W := by
  rw [condB, decide_eq_false h, Bool.false_and]
theorem cond_c {w : World} {news : Led} {x y W : Int} {tx ty tw : Tok} (x0 : 0 ≤ x) (x1 : x < W) (y0 : 0 ≤ y) (y1 : y < W) (hW : W ≤ 18446744073709551616) :
    Ctr w 2 302 [.int x tx, .int y ty, .int W tw] news (CondP x y W news) := by
  unfold Ctr
  k_fill
  intro p loose mean mg mb dp un gd cn cs a ccd cl outer A₀ base h₀ L m s Q E B F X N T hk hd hu hret
  have hWp : 0 < W := by omega
  refine wpAny_call ?_
  k_dflt ktr_enter
  k_steps
  all_goals (first
    | (rename StrsAre _ (pickL _ _) => hz
       rename _ < _ ∧ _ < _ ∧ _ < _ ∧ _ < _ ∧ _ < _ ∧ AllLt _ news => hl
       (first | rw [condB_1 (by assumption)] at hz | rw [condB_2 (by assumption)] at hz)
       exact hret _ _ _ _ ⟨_, _, rfl, hz, ktn_ltOf hl.2.2.2.2.2, rfl⟩ (by k_asm) (ndrop (by k_asm) (by kcj_all)))
    | (k_asm)
    | exact ndrop (by k_asm) (fun p hp => .tail _ hp))
end Mine
namespace Mine
def JEl (c : Int) (la : Addr) (oa : Obj) (pa : Addr) (rest : Led) (y : Value) (news' : Led) : Prop := ∃ r st sd kk t ta tb tc, y = .int r t ∧ (0 ≤ r ∧ r < 2) ∧ PenOk c st sd kk ∧ news' = (la, oa) :: (pa, penO st sd kk ta tb tc) :: rest
def BitsL (ys : List Value) : Prop := ∀ y ∈ ys, ∃ r t, y = Value.int r t ∧ (0 ≤ r ∧ r < 2)
theorem bits7 {ys : List Value} (h : BitsL ys) (hl : ys.length = 7) : ∃ r1 r2 r3 r4 r5 r6 r7 t1 t2 t3 t4 t5 t6 t7, ys = [.int r1 t1, .int r2 t2, .int r3 t3, .int r4 t4, .int r5 t5, .int r6 t6, .int r7 t7] ∧ ((0 ≤ r1 ∧ r1 < 2) ∧ (0 ≤ r2 ∧ r2 < 2) ∧ (0 ≤ r3 ∧ r3 < 2) ∧ (0 ≤ r4 ∧ r4 < 2) ∧ (0 ≤ r5 ∧ r5 < 2) ∧ (0 ≤ r6 ∧ r6 < 2) ∧ (0 ≤ r7 ∧ r7 < 2)) := by
  match ys, hl with
  | [y1, y2, y3, y4, y5, y6, y7], _ =>
    obtain ⟨r1, t1, rfl, b1⟩ := h y1 (by simp)
    obtain ⟨r2, t2, rfl, b2⟩ := h y2 (by simp)
    obtain ⟨r3, t3, rfl, b3⟩ := h y3 (by simp)
    obtain ⟨r4, t4, rfl, b4⟩ := h y4 (by simp)
    obtain ⟨r5, t5, rfl, b5⟩ := h y5 (by simp)
    obtain ⟨r6, t6, rfl, b6⟩ := h y6 (by simp)
    obtain ⟨r7, t7, rfl, b7⟩ := h y7 (by simp)
    exact ⟨r1, r2, r3, r4, r5, r6, r7, t1, t2, t3, t4, t5, t6, t7, rfl, b1, b2, b3, b4, b5, b6, b7⟩
theorem jk_rest {prog : Program} {w : World} {A : Around} {h₀ : Heap} {L : Addr} {m : Str → Option Value} {env : Env} {elt : PySem.Expr} {x : Str} {scope : Scope} {cl : List (Str × Addr)} {s : Shared} {S : Led → Prop} {Fin : List Value → Led → Prop} {a : Int} {n : Nat} {c st sd kk : Int} {ta tb tc : Tok} {pa la : Addr} {oa : Obj} {rest : Led}
    (hp : PenOk c st sd kk) (hn : n = 7) (hc : c ≤ 900)
    (turn : ∀ c' st' sd' kk' ta' tb' tc' v I oI C oC D m₂ ys h tk (E' : Value → Shared → Prop), PenOk c' st' sd' kk' → c' ≤ 1000 → LCg.NsObj oC m₂ → m₂ x = some v → Fr h₀ L h m → News h₀ L h ((I, oI) :: (C, oC) :: (D, LCg.lst ys) :: (la, oa) :: (pa, penO st' sd' kk' ta' tb' tc') :: rest) → LCg.Off3 I C D ((la, oa) :: (pa, penO st' sd' kk' ta' tb' tc') :: rest) → ((@Ne Nat I C) ∧ (@Ne Nat I D) ∧ (@Ne Nat C D)) →
      wpAny (model prog w) A (eval elt (compEnvC scope cl C env)) (LCg.CompEnd h₀ L m { s with heap := h, toks := tk } I oI C oC D (LCg.lst ys) S (fun y news' => JEl (c' + 1) la oa pa rest y news')) E' { s with heap := h, toks := tk })
    (fin : ∀ r1 r2 r3 r4 r5 r6 r7 t1 t2 t3 t4 t5 t6 t7 st sd kk ta tb tc, (0 ≤ r1 ∧ r1 < 2) ∧ (0 ≤ r2 ∧ r2 < 2) ∧ (0 ≤ r3 ∧ r3 < 2) ∧ (0 ≤ r4 ∧ r4 < 2) ∧ (0 ≤ r5 ∧ r5 < 2) ∧ (0 ≤ r6 ∧ r6 < 2) ∧ (0 ≤ r7 ∧ r7 < 2) → PenOk (c + 7) st sd kk → Fin [.int r1 t1, .int r2 t2, .int r3 t3, .int r4 t4, .int r5 t5, .int r6 t6, .int r7 t7] ((la, oa) :: (pa, penO st sd kk ta tb tc) :: rest)) :
    LCg.CompRest prog w A h₀ L m env elt x scope cl s S (fun i v => ∃ t, v = .int (a + (i : Int)) t) Fin n 0 [] ((la, oa) :: (pa, penO st sd kk ta tb tc) :: rest) := by
  subst hn
  have key : ∀ (j i : Nat) (ys : List Value) (st sd kk : Int) (ta tb tc : Tok), i + j = 7 → ys.length = i → BitsL ys → PenOk (c + i) st sd kk → LCg.CompRest prog w A h₀ L m env elt x scope cl s S (fun i v => ∃ t, v = .int (a + (i : Int)) t) Fin j i ys ((la, oa) :: (pa, penO st sd kk ta tb tc) :: rest) := by
    intro j
    induction j with
    | zero =>
      intro i ys st sd kk ta tb tc hi hy hb hp
      obtain ⟨r1, r2, r3, r4, r5, r6, r7, t1, t2, t3, t4, t5, t6, t7, rfl, b⟩ := bits7 hb (by omega)
      have e : (i : Int) = 7 := by omega
      rw [e] at hp
      exact LCg.CompRest.zero (fin _ _ _ _ _ _ _ _ _ _ _ _ _ _ _ _ _ _ _ _ b hp)
    | succ j ih =>
      intro i ys st sd kk ta tb tc hi hy hb hp
      refine LCg.CompRest.succ ?_
      intro v I oI C oC D m₂ h tk E' hv hC hx F N off ne
      refine wpAny_mono (turn (c + i) st sd kk ta tb tc v I oI C oC D m₂ ys h tk E' hp (by omega) hC hx F N off ne) (fun y s₂ hq => ?_) fun _ _ e => e
      obtain ⟨h', tk', nw, e, F', N', off', hS, r, st', sd', kk', t, ta', tb', tc', rfl, b, hp', rfl⟩ := hq
      refine ⟨h', tk', _, e, F', N', off', hS, ?_⟩
      refine ih (i + 1) _ _ _ _ _ _ _ (by omega) (by simp [hy]) ?_ (by rw [Int.natCast_succ, ← Int.add_assoc]; exact hp')
      intro y hy'
      rcases List.mem_append.mp hy' with h1 | h1
      · exact hb y h1
      · simp only [List.mem_singleton] at h1
        exact ⟨r, t, h1, b⟩
  exact key 7 0 [] st sd kk ta tb tc (by omega) rfl (fun y hy => by simp at hy) (by simpa using hp)
end Mine
namespace Mine
theorem ctr_updN {w : World} {k : Nat} {f : Addr} {vs : List Value} {d : Addr} {o : Obj} {news : Led} {β : Type} {o' : β → Obj} {news' : β → Led} {R : Value → Led → β → Prop} (U : ∀ x, Upd d o (o' x) news (news' x)) (hne : Nonempty β)
    (C : Ctr w k f vs ((d, o) :: news.filter (fun p => decide (p.1 ≠ d))) (fun v n' => ∃ pre x, R v pre x ∧ n' = pre ++ (d, o' x) :: news.filter (fun p => decide (p.1 ≠ d)))) :
    Ctr w k f vs news (fun v n' => ∃ pre x, R v pre x ∧ n' = pre ++ news' x) := by
  intro p loose mean mg mb dp un gd cn cs a ccd cl outer A₀ base h₀ L m s Q E B F X N T hk hd hu h
  refine C p loose mean mg mb dp un gd cn cs a ccd cl outer A₀ base h₀ L m s Q E B F X ?_ T hk hd hu ?_
  · obtain ⟨x⟩ := hne
    obtain ⟨pre, post, e, _, _, _⟩ := (U x).split
    intro q hq
    rcases List.mem_cons.mp hq with rfl | hq
    · exact N _ (by rw [e]; exact List.mem_append.mpr (.inr (.head _)))
    · exact N _ (List.mem_filter.mp hq).1
  · rintro v n' h' tk' ⟨pr, x, hR, rfl⟩ F' N'
    refine h v (pr ++ news' x) h' tk' ⟨pr, x, hR, rfl⟩ F' ?_
    obtain ⟨pre, post, e, e', a1, a2⟩ := (U x).split
    intro q hq
    rcases List.mem_append.mp hq with hq | hq
    · exact N' _ (List.mem_append.mpr (.inl hq))
    refine N' _ (List.mem_append.mpr (.inr ?_))
    rw [e'] at hq
    have key : ∀ q, q ∈ news → q.1 ≠ d → q ∈ (d, o' x) :: news.filter (fun p => decide (p.1 ≠ d)) := fun q h1 h2 => List.mem_cons.mpr (.inr (List.mem_filter.mpr ⟨h1, by simpa using h2⟩))
    rcases List.mem_append.mp hq with hq | hq
    · exact key q (by rw [e]; exact List.mem_append.mpr (.inl hq)) (a1 q hq)
    · rcases List.mem_cons.mp hq with rfl | hq
      · exact .head _
      · exact key q (by rw [e]; exact List.mem_append.mpr (.inr (.tail _ hq))) (a2 q hq)
def Bits7 (r1 r2 r3 r4 r5 r6 r7 : Int) : Prop := (0 ≤ r1 ∧ r1 < 2) ∧ (0 ≤ r2 ∧ r2 < 2) ∧ (0 ≤ r3 ∧ r3 < 2) ∧ (0 ≤ r4 ∧ r4 < 2) ∧ (0 ≤ r5 ∧ r5 < 2) ∧ (0 ≤ r6 ∧ r6 < 2) ∧ (0 ≤ r7 ∧ r7 < 2)
def JunkR (w : World) (olds : Led) (v : Value) (pre : Led) : Prop := ∃ (TD x d D : Addr) (κ : KT) (r1 r2 r3 r4 r5 r6 r7 : Int) (t1 t2 t3 t4 t5 t6 t7 : Tok), v = .ref TD ∧ Bits7 r1 r2 r3 r4 r5 r6 r7 ∧ (@LT.lt Nat _ D d) ∧ (@LT.lt Nat _ d x) ∧ (@LT.lt Nat _ x TD) ∧ (∀ p ∈ olds, p.1 < d) ∧ (∀ p ∈ olds, @Ne Nat p.1 D) ∧
  pre = [(TD, { cls := .type "tuple", data := .seq #[.ref x, .ref D] }), (x, instObj 176 d), (d, flagsD w κ r1 r2 r3 r4 r5 r6 r7 t1 t2 t3 t4 t5 t6 t7), (D, LCg.lst [.int r1 t1, .int r2 t2, .int r3 t3, .int r4 t4, .int r5 t5, .int r6 t6, .int r7 t7])]
def JunkP (w : World) (c : Int) (news : Led) (news' : Int → Int → Int → Tok → Tok → Tok → Led) : Value → Led → Prop := fun v n' => ∃ (TD x d D : Addr) (κ : KT) (r1 r2 r3 r4 r5 r6 r7 : Int) (t1 t2 t3 t4 t5 t6 t7 : Tok) (st sd kk : Int) (ta tb tc : Tok), v = .ref TD ∧ Bits7 r1 r2 r3 r4 r5 r6 r7 ∧ PenOk (c + 7) st sd kk ∧ (@LT.lt Nat _ D d) ∧ (@LT.lt Nat _ d x) ∧ (@LT.lt Nat _ x TD) ∧ (∀ p ∈ news, p.1 < d) ∧ (∀ p ∈ news, @Ne Nat p.1 D) ∧
  n' = (TD, { cls := .type "tuple", data := .seq #[.ref x, .ref D] }) :: (x, instObj 176 d) :: (d, flagsD w κ r1 r2 r3 r4 r5 r6 r7 t1 t2 t3 t4 t5 t6 t7) :: (D, LCg.lst [.int r1 t1, .int r2 t2, .int r3 t3, .int r4 t4, .int r5 t5, .int r6 t6, .int r7 t7]) :: news' st sd kk ta tb tc
theorem off1_mem {D : Addr} : ∀ {l : Led}, LCg.Off1 D l → ∀ p ∈ l, @Ne Nat p.1 D
  | [], _, _, h => nomatch h
  | q :: r, o, p, h => by
    rcases List.mem_cons.mp h with rfl | h
    · exact o.1
    · exact off1_mem o.2 p h
theorem off1_of {D : Addr} : ∀ {l : Led}, (∀ p ∈ l, @Ne Nat p.1 D) → LCg.Off1 D l
  | [], _ => trivial
  | q :: r, h => ⟨h q (.head _), off1_of fun p hp => h p (.tail _ hp)⟩
theorem junk_end {w : World} {h₀ h : Heap} {L : Addr} {m : Str → Option Value} {s : Shared} {Q : Value → Shared → Prop} {TD T2 x d D cc pa : Addr} {o2 oc : Obj} {k1 k2 k3 k4 k5 k6 k7 : Tok} {r1 r2 r3 r4 r5 r6 r7 : Int} {t1 t2 t3 t4 t5 t6 t7 : Tok} {st0 sd0 kk0 st sd kk c : Int} {ta0 tb0 tc0 ta tb tc : Tok} {rest : Led} {tk : Nat}
    (hret : ∀ v news' h' tk', (∃ (pre : Led) (x : (Int × Int × Int) × (Tok × Tok × Tok)), (JunkR w ((pa, penO st0 sd0 kk0 ta0 tb0 tc0) :: rest) v pre ∧ PenOk (c + 7) x.1.1 x.1.2.1 x.1.2.2) ∧ news' = pre ++ (pa, penO x.1.1 x.1.2.1 x.1.2.2 x.2.1 x.2.2.1 x.2.2.2) :: rest) → Fr h₀ L h' m → News h₀ L h' news' → Q v { s with heap := h', toks := tk' })
    (N : News h₀ L h ((TD, { cls := .type "tuple", data := .seq #[.ref x, .ref D] }) :: (T2, o2) :: (x, instObj 176 d) :: (d, flagsD w ⟨k1, k2, k3, k4, k5, k6, k7⟩ r1 r2 r3 r4 r5 r6 r7 t1 t2 t3 t4 t5 t6 t7) :: (D, LCg.lst [.int r1 t1, .int r2 t2, .int r3 t3, .int r4 t4, .int r5 t5, .int r6 t6, .int r7 t7]) :: (cc, oc) :: (pa, penO st sd kk ta tb tc) :: rest))
    (F : Fr h₀ L h m) (hb : Bits7 r1 r2 r3 r4 r5 r6 r7) (hp : PenOk (c + 7) st sd kk) (f1 : cc ≠ D ∧ pa ≠ D ∧ LCg.Off1 D rest) (f2 : D < d ∧ cc < d ∧ pa < d ∧ AllLt d rest) (f3 : d < x) (f4 : T2 < TD ∧ x < TD ∧ d < TD ∧ D < TD ∧ cc < TD ∧ pa < TD ∧ AllLt TD rest) : Q (.ref TD) { s with heap := h, toks := tk } := by
  obtain ⟨-, b1, b2⟩ := f1
  obtain ⟨l1, -, a1, a2⟩ := f2
  obtain ⟨-, l3, -⟩ := f4
  refine hret (.ref TD) ([(TD, { cls := .type "tuple", data := .seq #[.ref x, .ref D] }), (x, instObj 176 d), (d, flagsD w ⟨k1, k2, k3, k4, k5, k6, k7⟩ r1 r2 r3 r4 r5 r6 r7 t1 t2 t3 t4 t5 t6 t7), (D, LCg.lst [.int r1 t1, .int r2 t2, .int r3 t3, .int r4 t4, .int r5 t5, .int r6 t6, .int r7 t7])] ++ (pa, penO st sd kk ta tb tc) :: rest) h tk ⟨_, ((st, sd, kk), (ta, tb, tc)), ⟨⟨TD, x, d, D, ⟨k1, k2, k3, k4, k5, k6, k7⟩, r1, r2, r3, r4, r5, r6, r7, t1, t2, t3, t4, t5, t6, t7, rfl, hb, l1, f3, l3, ?_, ?_, rfl⟩, hp⟩, rfl⟩ F ?_
  · intro p hp
    rcases List.mem_cons.mp hp with rfl | hp
    · exact a1
    · exact ktn_ltOf a2 p hp
  · intro p hp
    rcases List.mem_cons.mp hp with rfl | hp
    · exact b1
    · exact off1_mem b2 p hp
  · intro p hp
    refine N p ?_
    simp only [List.cons_append, List.nil_append, List.mem_cons] at hp ⊢
    rcases hp with h | h | h | h | h | h <;> simp [h]
theorem junk_c {w : World} {pa : Addr} {rest : Led} {st sd kk c : Int} {ta tb tc : Tok} (hp : PenOk c st sd kk) (hc : c ≤ 900) (hr : ∀ p ∈ rest, p.1 ≠ pa) :
    Ctr w 2 307 [.ref pa] ((pa, penO st sd kk ta tb tc) :: rest) (fun v n' => ∃ (pre : Led) (x : (Int × Int × Int) × (Tok × Tok × Tok)), (JunkR w ((pa, penO st sd kk ta tb tc) :: rest) v pre ∧ PenOk (c + 7) x.1.1 x.1.2.1 x.1.2.2) ∧ n' = pre ++ (pa, penO x.1.1 x.1.2.1 x.1.2.2 x.2.1 x.2.2.1 x.2.2.2) :: rest) := by
  unfold Ctr
  k_fill
  intro p loose mean mg mb dp un gd cn cs a ccd cl outer A₀ base h₀ L m s Q E B F X N T hk hd hu hret
  refine wpAny_call ?_
  k_dflt (refine' code_defC ?k1 ?k2 ?k3 ?k4 ?k5 ?kA ?kF ?kK ?k6 ?k7 ?k8 ?k9 ?kB ?kD ?_ ?c2 ?c3 ?c4; (case kA => exact rfl); (case kF => exact rfl); (case kK => assumption); (case k1 => k_asm); (case k2 => k_asm); (case k3 => k_asm); (case k4 => k_asm); (case k5 => k_asm); (case k6 => k_is); (case k7 => k_is); (case k8 => ktr_room); (case k9 => exact BindsTo.of_eq rfl); (case kB => exact rfl); (case kD => decide +kernel); (case c2 => exact rfl); (case c3 => exact rfl); (case c4 => exact rfl); k_whole; intro g' L' h' tk' cells' FG' F' N' Y' B' X' T' l1; (try k_lt l1); k_cells Y'; (try simp only [List.cons_append, List.nil_append] at N'); (try dsimp only); (try k_fold))
  k_steps
  (rename (0 ≤ _ ∧ _ < 2) ∧ _ => hb)
  (rename PenOk (c + 7) _ _ _ => hp7)
  (rename News _ _ _ _ => NN)
  exact junk_end (c := c) hret NN (by k_asm) hb hp7 (by assumption) (by assumption) (by assumption) (by assumption)
-- USE
theorem useJunk {w : World} {d : Nat} {f : Addr} {vs : List Value} {news : Led} {p : Program} {loose : List Str} {mean : ExcName → Option Value} {mg mb : Str → Option Value} {dp un : Nat} {gd : Option (List Code)} {cn : Str} {cs : Scope} {a : Addr} {ccd : Value} {cl : List (Str × Addr)} {outer : List Env} {A₀ : Around} {base h₀ : Heap} {L : Addr} {m : Str → Option Value} {s : Shared} {Q E : Value → Shared → Prop} {c : Int} {news' : Int → Int → Int → Tok → Tok → Tok → Led} (C : Ctr w d f vs news (JunkP w c news news')) (B : Below A₀ base outer h₀) (F : Fr h₀ L s.heap m) (X : (Mine.mk.heap_1 w.params).In h₀) (N : News h₀ L s.heap news) (T : Top p loose mean mg mb h₀) (hk : cs.kind = .function) (hd : dp + d < recursionLimit) (hu : un + 8 * d < cLine)
    (h : ∀ (TD x d' D : Addr) κ r1 r2 r3 r4 r5 r6 r7 t1 t2 t3 t4 t5 t6 t7 st sd kk ta tb tc h' tk', Bits7 r1 r2 r3 r4 r5 r6 r7 → PenOk (c + 7) st sd kk → (@LT.lt Nat _ D d') → (@LT.lt Nat _ d' x) → (@LT.lt Nat _ x TD) → (∀ p ∈ news, p.1 < d') → LCg.Off1 D news → Fr h₀ L h' m → News h₀ L h' ((TD, { cls := .type "tuple", data := .seq #[.ref x, .ref D] }) :: (x, instObj 176 d') :: (d', flagsD w κ r1 r2 r3 r4 r5 r6 r7 t1 t2 t3 t4 t5 t6 t7) :: (D, LCg.lst [.int r1 t1, .int r2 t2, .int r3 t3, .int r4 t4, .int r5 t5, .int r6 t6, .int r7 t7]) :: news' st sd kk ta tb tc) → Q (.ref TD) { s with heap := h', toks := tk' }) : wpAny (model PySem.Challenge.rw_pq0794_01.row.prog w) (ktrTop dp un gd cn cs L a ccd cl outer) (call (.ref f) vs) Q E s :=
  use C B F X N T hk hd hu (by rintro v n' h' tk' ⟨TD, x, d', D, κ, r1, r2, r3, r4, r5, r6, r7, t1, t2, t3, t4, t5, t6, t7, st, sd, kk, ta, tb, tc, rfl, q1, q2, q3, q4, q5, q6, q7, rfl⟩ F' N'; exact h TD x d' D κ r1 r2 r3 r4 r5 r6 r7 t1 t2 t3 t4 t5 t6 t7 st sd kk ta tb tc h' tk' q1 q2 q3 q4 q5 q6 (off1_of q7) F' N')
-- END USE
theorem junk_u {w : World} {pa : Addr} {news : Led} {st sd kk c : Int} {ta tb tc : Tok} {news' : Int → Int → Int → Tok → Tok → Tok → Led}
    (U : ∀ st' sd' kk' ta' tb' tc', Upd pa (penO st sd kk ta tb tc) (penO st' sd' kk' ta' tb' tc') news (news' st' sd' kk' ta' tb' tc')) (hp : PenOk c st sd kk) (hc : c ≤ 900) :
    Ctr w 2 307 [.ref pa] news (JunkP w c news news') := by
  have D := ctr_updN (w := w) (k := 2) (f := 307) (vs := [.ref pa]) (β := (Int × Int × Int) × (Tok × Tok × Tok)) (o := penO st sd kk ta tb tc) (o' := fun x => penO x.1.1 x.1.2.1 x.1.2.2 x.2.1 x.2.2.1 x.2.2.2) (news' := fun x => news' x.1.1 x.1.2.1 x.1.2.2 x.2.1 x.2.2.1 x.2.2.2) (fun x => U _ _ _ _ _ _) ⟨((0, 0, 0), (0, 0, 0))⟩ (junk_c (w := w) hp hc (filter_ne (news := news)))
  refine ctr_mono D ?_
  rintro v n' ⟨pre, ⟨⟨st', sd', kk'⟩, ta', tb', tc'⟩, ⟨⟨TD, x, d, D, κ, r1, r2, r3, r4, r5, r6, r7, t1, t2, t3, t4, t5, t6, t7, e, hb, l1, l2, l3, a1, a2, e2⟩, hp'⟩, e'⟩
  subst e2
  have al : ∀ p ∈ news, p.1 = pa ∨ p ∈ news.filter (fun p => decide (p.1 ≠ pa)) := fun p h => by
    by_cases q : p.1 = pa
    · exact .inl q
    · exact .inr (mem_filter h q)
  refine ⟨TD, x, d, D, κ, r1, r2, r3, r4, r5, r6, r7, t1, t2, t3, t4, t5, t6, t7, st', sd', kk', ta', tb', tc', e, hb, hp', l1, l2, l3, fun p h => ?_, fun p h => ?_, e'⟩
  · rcases al p h with q | q
    · rw [q]; exact a1 _ (.head _)
    · exact a1 _ (.tail _ q)
  · rcases al p h with q | q
    · rw [q]; exact a2 _ (.head _)
    · exact a2 _ (.tail _ q)
end Mine
namespace Mine
theorem pen_mono {c c' st sd kk : Int} (h : PenOk c st sd kk) (hc : c ≤ c') : PenOk c' st sd kk := ⟨h.1, h.2.1, h.2.2.1, h.2.2.2.1, Int.le_trans h.2.2.2.2 hc⟩
def NumP (c : Int) (news' : Int → Int → Int → Tok → Tok → Tok → Led) : Value → Led → Prop := fun v n' => ∃ r st sd kk t ta tb tc, v = .int r t ∧ PenOk (c + 3) st sd kk ∧ n' = news' st sd kk ta tb tc
-- USE
theorem useNum {w : World} {d : Nat} {f : Addr} {vs : List Value} {news : Led} {p : Program} {loose : List Str} {mean : ExcName → Option Value} {mg mb : Str → Option Value} {dp un : Nat} {gd : Option (List Code)} {cn : Str} {cs : Scope} {a : Addr} {ccd : Value} {cl : List (Str × Addr)} {outer : List Env} {A₀ : Around} {base h₀ : Heap} {L : Addr} {m : Str → Option Value} {s : Shared} {Q E : Value → Shared → Prop} {c : Int} {news' : Int → Int → Int → Tok → Tok → Tok → Led} (C : Ctr w d f vs news (NumP c news')) (B : Below A₀ base outer h₀) (F : Fr h₀ L s.heap m) (X : (Mine.mk.heap_1 w.params).In h₀) (N : News h₀ L s.heap news) (T : Top p loose mean mg mb h₀) (hk : cs.kind = .function) (hd : dp + d < recursionLimit) (hu : un + 8 * d < cLine)
    (h : ∀ r st sd kk t ta tb tc h' tk', PenOk (c + 3) st sd kk → Fr h₀ L h' m → News h₀ L h' (news' st sd kk ta tb tc) → Q (.int r t) { s with heap := h', toks := tk' }) : wpAny (model PySem.Challenge.rw_pq0794_01.row.prog w) (ktrTop dp un gd cn cs L a ccd cl outer) (call (.ref f) vs) Q E s :=
  use C B F X N T hk hd hu (by rintro v n' h' tk' ⟨r, st, sd, kk, t, ta, tb, tc, rfl, q3, rfl⟩ F' N'; exact h r st sd kk t ta tb tc h' tk' q3 F' N')
-- END USE
theorem log_pow {n : Nat} (h : n ≤ 100) : (1 * 2 ^ n : Int).natAbs.log2 < 9000 := by
  rw [Int.one_mul, Int.natAbs_pow]
  have : (Int.natAbs 2) = 2 := rfl
  rw [this, Nat.log2_two_pow]
  omega
theorem number_c {w : World} {pa : Addr} {rest : Led} {size other : Int} {tz to : Tok} {st sd kk c : Int} {ta tb tc : Tok} (h0 : 1 ≤ size) (h1 : size ≤ 64) (hp : PenOk c st sd kk) (hc : c ≤ 900) (hr : ∀ p ∈ rest, p.1 ≠ pa) :
    Ctr w 2 278 [.ref pa, .int size tz, .int other to] ((pa, penO st sd kk ta tb tc) :: rest) (NumP c (fun st sd kk ta tb tc => (pa, penO st sd kk ta tb tc) :: rest)) := by
  unfold Ctr
  k_fill
  intro p loose mean mg mb dp un gd cn cs a ccd cl outer A₀ base h₀ L m s Q E B F X N T hk hd hu hret
  refine wpAny_call ?_
  k_dflt ktr_enter
  have hp0 : (0 : Int) < 1 * 2 ^ (size + 3).toNat := by rw [Int.one_mul]; exact kbt_pos _
  have hp1 : (1 * 2 ^ (size + 3).toNat : Int).natAbs.log2 < 9000 := log_pow (by omega)
  k_steps
  all_goals (
    (rename PenOk _ _ _ _ => hz)
    exact hret _ _ _ _ ⟨_, _, _, _, _, _, _, _, rfl, pen_mono hz (by omega), rfl⟩ (by k_asm) (ndrop (by k_asm) (by kcj_all)))
theorem number_u {w : World} {size other : Int} {tz to : Tok} {st sd kk c : Int} {ta tb tc : Tok} {pa : Addr} {news : Led} {news' : Int → Int → Int → Tok → Tok → Tok → Led}
    (U : ∀ st' sd' kk' ta' tb' tc', Upd pa (penO st sd kk ta tb tc) (penO st' sd' kk' ta' tb' tc') news (news' st' sd' kk' ta' tb' tc'))
    (hp : PenOk c st sd kk) (hc : c ≤ 900) (h0 : 1 ≤ size) (h1 : size ≤ 64) : Ctr w 2 278 [.ref pa, .int size tz, .int other to] news (NumP c news') := by
  have C := number_c (w := w) (tz := tz) (to := to) (other := other) (ta := ta) (tb := tb) (tc := tc) (pa := pa) h0 h1 hp hc (filter_ne (news := news))
  have D := ctr_upd (w := w) (k := 2) (f := 278) (vs := [.ref pa, .int size tz, .int other to]) (β := (Int × Int × Int) × (Tok × Tok × Tok)) (o := penO st sd kk ta tb tc) (o' := fun x => penO x.1.1 x.1.2.1 x.1.2.2 x.2.1 x.2.2.1 x.2.2.2) (news' := fun x => news' x.1.1 x.1.2.1 x.1.2.2 x.2.1 x.2.2.1 x.2.2.2) (R := fun v x => ∃ r t, v = .int r t ∧ PenOk (c + 3) x.1.1 x.1.2.1 x.1.2.2) (fun x => U _ _ _ _ _ _) ⟨((0, 0, 0), (0, 0, 0))⟩
    (ctr_mono C (by rintro v n' ⟨r, st', sd', kk', t, ta', tb', tc', e, q3, e'⟩; exact ⟨((st', sd', kk'), (ta', tb', tc')), ⟨r, t, e, q3⟩, e'⟩))
  exact ctr_mono D (by rintro v n' ⟨⟨⟨st', sd', kk'⟩, ta', tb', tc'⟩, ⟨r, t, e, q3⟩, e'⟩; exact ⟨r, st', sd', kk', t, ta', tb', tc', e, q3, e'⟩)
end Mine
namespace Mine
section
variable {prog : Program} {w : World} {A : Around} {E : Value → Shared → Prop} {s : Shared}
theorem shl_one {n : Int} {t u : Tok} {Q : Value → Shared → Prop} (h0 : 0 ≤ n) (h1 : n ≤ 1000000) (h : Q (.int (2 ^ n.toNat) s.toks) { s with toks := s.toks + 1 }) : wpAny (model prog w) A (binaryOp .LShift (.int 1 t) (.int n u)) Q E s :=
  lshift_int_small h0 h1 (by decide) (by rw [Int.one_mul]; exact h)
theorem ne_self {a : Int} {t u : Tok} {Q : Value → Shared → Prop} (h : Q (.bool false) s) : wpAny (model prog w) A (compareOp .NotEq (.int a t) (.int a u)) Q E s :=
  ne_int (by rw [bne_self_eq_false]; exact h)
theorem eq_self {a : Int} {t u : Tok} {Q : Value → Shared → Prop} (h : Q (.bool true) s) : wpAny (model prog w) A (compareOp .Eq (.int a t) (.int a u)) Q E s :=
  eq_int (by rw [beq_self_eq_true]; exact h)
end
end Mine
namespace Mine
theorem pow_le {size : Int} (h1 : size ≤ 64) : (2 : Int) ^ size.toNat ≤ 18446744073709551616 := by
  have h : (2 : Nat) ^ size.toNat ≤ 2 ^ 64 := Nat.pow_le_pow_right (by decide) (by omega)
  have h' : ((2 ^ size.toNat : Nat) : Int) ≤ ((2 ^ 64 : Nat) : Int) := Int.ofNat_le.mpr h
  rw [Int.natCast_pow] at h'
  exact h'
def ToldP (news : Led) (r1 r2 r3 r4 r5 r6 r7 : Int) (t1 t2 t3 t4 t5 t6 t7 : Tok) : Value → Led → Prop := fun v n' => ∃ T, v = .ref T ∧ (∀ p ∈ news, p.1 < T) ∧ n' = (T, { cls := .type "tuple", data := .seq #[.int r1 t1, .int r2 t2, .int r3 t3, .int r4 t4, .int r5 t5, .int r6 t6, .int r7 t7] }) :: news
-- USE
theorem useTold {w : World} {d : Nat} {f : Addr} {vs : List Value} {news : Led} {p : Program} {loose : List Str} {mean : ExcName → Option Value} {mg mb : Str → Option Value} {dp un : Nat} {gd : Option (List Code)} {cn : Str} {cs : Scope} {a : Addr} {ccd : Value} {cl : List (Str × Addr)} {outer : List Env} {A₀ : Around} {base h₀ : Heap} {L : Addr} {m : Str → Option Value} {s : Shared} {Q E : Value → Shared → Prop} {r1 r2 r3 r4 r5 r6 r7 : Int} {t1 t2 t3 t4 t5 t6 t7 : Tok} (C : Ctr w d f vs news (ToldP news r1 r2 r3 r4 r5 r6 r7 t1 t2 t3 t4 t5 t6 t7)) (B : Below A₀ base outer h₀) (F : Fr h₀ L s.heap m) (X : (Mine.mk.heap_1 w.params).In h₀) (N : News h₀ L s.heap news) (T : Top p loose mean mg mb h₀) (hk : cs.kind = .function) (hd : dp + d < recursionLimit) (hu : un + 8 * d < cLine)
    (h : ∀ (D : Addr) h' tk', (∀ p ∈ news, p.1 < D) → Fr h₀ L h' m → News h₀ L h' ((D, { cls := .type "tuple", data := .seq #[.int r1 t1, .int r2 t2, .int r3 t3, .int r4 t4, .int r5 t5, .int r6 t6, .int r7 t7] }) :: news) → Q (.ref D) { s with heap := h', toks := tk' }) : wpAny (model PySem.Challenge.rw_pq0794_01.row.prog w) (ktrTop dp un gd cn cs L a ccd cl outer) (call (.ref f) vs) Q E s :=
  use C B F X N T hk hd hu (by rintro v n' h' tk' ⟨D, rfl, q1, rfl⟩ F' N'; exact h D h' tk' q1 F' N')
-- END USE
theorem told_c {w : World} {news : Led} {fa fd : Addr} {κ : KT} {r1 r2 r3 r4 r5 r6 r7 : Int} {t1 t2 t3 t4 t5 t6 t7 : Tok} (hm : (fa, instObj 176 fd) ∈ news) (hm2 : (fd, flagsD w κ r1 r2 r3 r4 r5 r6 r7 t1 t2 t3 t4 t5 t6 t7) ∈ news) :
    Ctr w 2 124 [.ref fa] news (ToldP news r1 r2 r3 r4 r5 r6 r7 t1 t2 t3 t4 t5 t6 t7) := by
  unfold Ctr
  k_fill
  intro p loose mean mg mb dp un gd cn cs a ccd cl outer A₀ base h₀ L m s Q E B F X N T hk hd hu hret
  refine wpAny_call ?_
  k_dflt ktr_enter
  k_steps
  exact hret _ _ _ _ ⟨_, rfl, by assumption, rfl⟩ (by k_asm) (by k_asm)
end Mine
namespace Mine
def CtrB (w : World) (d : Nat) (f : Addr) (vs : List Value) (l : Addr) (items : Array Value) (news : Led) (P : Value → Led → Prop) : Prop :=
  ∀ (p : Program) (loose : List Str) (mean : ExcName → Option Value) (mg mb : Str → Option Value) (dp un : Nat) (gd : Option (List Code)) (cn : Str) (cs : Scope) (a : Addr) (ccd : Value) (cl : List (Str × Addr)) (outer : List Env) (A₀ : Around) (base h₀ : Heap) (L : Addr) (m : Str → Option Value) (s : Shared) (Q E : Value → Shared → Prop),
    Below A₀ base outer h₀ → Fr h₀ L s.heap m → (Mine.mk.heap_1 w.params).In h₀ → News h₀ L s.heap news → Top p loose mean mg mb h₀ → base.IsList l items → cs.kind = .function → dp + d < recursionLimit → un + 8 * d < cLine →
    (∀ v news' h' tk', P v news' → Fr h₀ L h' m → News h₀ L h' news' → Q v { s with heap := h', toks := tk' }) →
    wpAny (model PySem.Challenge.rw_pq0794_01.row.prog w) (ktrTop dp un gd cn cs L a ccd cl outer) (call (.ref f) vs) Q E s
def PInv (n : Nat) (a : Int) : Prop := 0 ≤ a ∧ a < (10 ^ 30 + 57) ^ n
theorem pinv0 : PInv 0 0 := ⟨Int.le_refl _, by decide⟩
theorem pstep {pre : List Int} {a k : Int} (h : PInv pre.length a) : PInv (pre ++ [k]).length (a * (10 ^ 30 + 57) + k % (10 ^ 30 + 57)) := by
  obtain ⟨h0, h1⟩ := h
  rw [List.length_append, List.length_cons, List.length_nil, Nat.zero_add]
  have e1 := Int.emod_nonneg k (show (10 ^ 30 + 57 : Int) ≠ 0 by decide)
  have e2 := Int.emod_lt_of_pos k (show (0 : Int) < 10 ^ 30 + 57 by decide)
  generalize k % (10 ^ 30 + 57) = r at e1 e2
  refine ⟨Int.add_nonneg (Int.mul_nonneg h0 (by decide)) e1, ?_⟩
  rw [Int.pow_succ]
  have h2 : a + 1 ≤ (10 ^ 30 + 57) ^ pre.length := h1
  have h3 := Int.mul_le_mul_of_nonneg_right h2 (show (0 : Int) ≤ 10 ^ 30 + 57 by decide)
  rw [Int.add_mul, Int.one_mul] at h3
  exact Int.lt_of_lt_of_le (Int.add_lt_add_left e2 _) h3
theorem pbits {n : Nat} {a : Int} (h : PInv n a) (hn : n ≤ 41) : Builtin.Int.intBits a ≤ 4100 := by
  obtain ⟨h0, h1⟩ := h
  unfold Builtin.Int.intBits
  split
  · exact Nat.zero_le _
  · rename_i hne
    obtain ⟨k, rfl⟩ := Int.eq_ofNat_of_zero_le h0
    have h2 : k < (10 ^ 30 + 57) ^ n := by
      have : ((k : Nat) : Int) < (((10 ^ 30 + 57) ^ n : Nat) : Int) := by rw [Int.natCast_pow]; exact h1
      exact Int.ofNat_lt.mp this
    have h3 : (10 ^ 30 + 57) ^ n ≤ (10 ^ 30 + 57) ^ 41 := Nat.pow_le_pow_right (by decide) hn
    have h4 : (10 ^ 30 + 57) ^ 41 ≤ 2 ^ 4100 := by decide +kernel
    have h5 : k ≠ 0 := fun e => hne (by rw [e]; rfl)
    have h6 : k.log2 < 4100 := (Nat.log2_lt h5).mpr (Nat.lt_of_lt_of_le h2 (Nat.le_trans h3 h4))
    exact h6
theorem pmul {n : Nat} {a : Int} (h : PInv n a) (hn : n ≤ 41) : IntMulOk a (10 ^ 30 + 57) := by
  have h1 := pbits h hn
  have h2 : Builtin.Int.intBits (10 ^ 30 + 57) ≤ 100 := by decide +kernel
  have h3 : Builtin.Int.intTooBig (Builtin.Int.intBits a + Builtin.Int.intBits (10 ^ 30 + 57)) = false := by
    unfold Builtin.Int.intTooBig
    refine decide_eq_false ?_
    have : (bitsLine : Int) ≥ 10000 := by decide +kernel
    omega
  unfold IntMulOk
  rw [h3, Bool.and_false]
  decide
def PenP (sd : Int) (news : Led) : Value → Led → Prop := fun v n' => ∃ P st ta tb tc, v = .ref P ∧ PenOk 0 st sd 0 ∧ (∀ p ∈ news, p.1 < P) ∧ n' = (P, penO st sd 0 ta tb tc) :: news
-- USE
theorem usePen {w : World} {d : Nat} {f : Addr} {vs : List Value} {news : Led} {p : Program} {loose : List Str} {mean : ExcName → Option Value} {mg mb : Str → Option Value} {dp un : Nat} {gd : Option (List Code)} {cn : Str} {cs : Scope} {a : Addr} {ccd : Value} {cl : List (Str × Addr)} {outer : List Env} {A₀ : Around} {base h₀ : Heap} {L : Addr} {m : Str → Option Value} {s : Shared} {Q E : Value → Shared → Prop} {l : Addr} {items : Array Value} {sd : Int} (C : CtrB w d f vs l items news (PenP sd news)) (B : Below A₀ base outer h₀) (F : Fr h₀ L s.heap m) (X : (Mine.mk.heap_1 w.params).In h₀) (N : News h₀ L s.heap news) (T : Top p loose mean mg mb h₀) (hl : base.IsList l items) (hk : cs.kind = .function) (hd : dp + d < recursionLimit) (hu : un + 8 * d < cLine)
    (h : ∀ (P : Addr) st ta tb tc h' tk', PenOk 0 st sd 0 → (∀ p ∈ news, p.1 < P) → Fr h₀ L h' m → News h₀ L h' ((P, penO st sd 0 ta tb tc) :: news) → Q (.ref P) { s with heap := h', toks := tk' }) : wpAny (model PySem.Challenge.rw_pq0794_01.row.prog w) (ktrTop dp un gd cn cs L a ccd cl outer) (call (.ref f) vs) Q E s :=
  C p loose mean mg mb dp un gd cn cs a ccd cl outer A₀ base h₀ L m s Q E B F X N T hl hk hd hu (by rintro v n' h' tk' ⟨P, st, ta, tb, tc, rfl, q1, q2, rfl⟩ F' N'; exact h P st ta tb tc h' tk' q1 q2 F' N')
-- END USE
end Mine
namespace Mine
theorem pen_c {w : World} {l : Addr} {vs : List Value} {ns : List Int} {news : Led} (hi : IntsAre vs ns) (hn : ns.length ≤ 63) :
    CtrB w 8 264 [.ref l] l vs.toArray news (PenP (71 + (ns.length : Int) % 1000) news) := by
  unfold CtrB
  k_fill
  intro p loose mean mg mb dp un gd cn cs a ccd cl outer A₀ base h₀ L m s Q E B F X N T hl hk hd hu hret
  refine wpAny_call ?_
  k_dflt ktr_enter
  (rename Below _ _ _ _ => B9)
  k_lift B9
  k_with "pyIter ref" => k_state (fun pre st => PInv pre.length st) "store"
  k_with "state" => first | exact pinv0 | exact pstep (by assumption)
  k_steps
  all_goals (
    (rename PInv _ _ => pI)
    (rename _ < _ ∧ _ < _ ∧ AllLt _ _ => hl)
    exact hret _ _ _ _ ⟨_, _, _, _, _, rfl, ⟨pI.1, by omega, by omega, by omega, by omega⟩, ktn_ltOf hl.2.2, rfl⟩ (by k_asm) (ndrop (by k_asm) (by kcj_all)))
end Mine
namespace Mine
theorem rows25 : True := by
  k_with_none
  k_with "call ref" => (k_here; (with_reducible show wpAny _ _ (PySem.call (Value.ref 68) _) _ _ _); (try dsimp only [List.nil_append, List.cons_append]); k_dflt (refine' useInt ?kC ?kB ?kF ?kX ?kN ?kT ?kK ?kd ?ku ?_; (case kN => k_asm); (case kC => (with_reducible_and_instances refine' mask_c ?c0 ?c1); (case c0 => first | assumption | decide | omega); (case c1 => first | assumption | decide | omega)); (case kB => k_asm); (case kF => k_asm); (case kX => k_asm); (case kT => k_asm); (case kK => first | exact rfl | assumption); (case kd => ktr_room); (case ku => ktr_units)); intro t9 h9 tk9 F9 N9; (try dsimp only); (try k_sweep))
  k_with "call ref" => (k_here; (with_reducible show wpAny _ _ (PySem.call (Value.ref 257) _) _ _ _); (try dsimp only [List.nil_append, List.cons_append]); k_dflt (refine' useInt ?kC ?kB ?kF ?kX ?kN ?kT ?kK ?kd ?ku ?_; (case kN => k_asm); (case kC => (with_reducible_and_instances refine' base_c )); (case kB => k_asm); (case kF => k_asm); (case kX => k_asm); (case kT => k_asm); (case kK => first | exact rfl | assumption); (case kd => ktr_room); (case ku => ktr_units)); intro t9 h9 tk9 F9 N9; (try dsimp only); (try k_sweep))
  k_with "call ref" => (k_here; (with_reducible show wpAny _ _ (PySem.call (Value.ref 82) _) _ _ _); (try dsimp only [List.nil_append, List.cons_append]); k_dflt (refine' useInt ?kC ?kB ?kF ?kX ?kN ?kT ?kK ?kd ?ku ?_; (case kN => k_asm); (case kC => (with_reducible_and_instances refine' bit_c ?c0 ?c1); (case c0 => first | assumption | decide | omega); (case c1 => first | assumption | decide | omega)); (case kB => k_asm); (case kF => k_asm); (case kX => k_asm); (case kT => k_asm); (case kK => first | exact rfl | assumption); (case kd => ktr_room); (case ku => ktr_units)); intro t9 h9 tk9 F9 N9; (try dsimp only); (try k_sweep))
  k_with "call ref" => (k_here; (with_reducible show wpAny _ _ (PySem.call (Value.ref 271) _) _ _ _); (try dsimp only [List.nil_append, List.cons_append]); k_dflt (refine' useTake ?kC ?kB ?kF ?kX ?kN ?kT ?kK ?kd ?ku ?_; (case kN => k_asm); (case kC => (with_reducible_and_instances refine' take_u ?U ?hp ?hc ?h0 ?hl); (case U => intro _ _ _ _ _ _; k_upd); (case hp => assumption); (case hc => first | assumption | decide | omega); (case h0 => first | assumption | decide | omega); (case hl => first | assumption | decide +kernel)); (case kB => k_asm); (case kF => k_asm); (case kX => k_asm); (case kT => k_asm); (case kK => first | exact rfl | assumption); (case kd => ktr_room); (case ku => ktr_units)); intro r9 st9 sd9 kk9 t9 ta9 tb9 tc9 h9 tk9 q9 q9' p9 F9 N9; (try dsimp only at N9); (try dsimp only); (try k_sweep))
  k_with "call ref" => (k_here; (with_reducible show wpAny _ _ (PySem.call (Value.ref 75) _) _ _ _); (try dsimp only [List.nil_append, List.cons_append]); k_dflt (refine' useInt ?kC ?kB ?kF ?kX ?kN ?kT ?kK ?kd ?ku ?_; (case kN => k_asm); (case kC => (with_reducible_and_instances refine' wrap_c ?c0 ?c1); (case c0 => first | assumption | decide | omega); (case c1 => first | assumption | decide | omega)); (case kB => k_asm); (case kF => k_asm); (case kX => k_asm); (case kT => k_asm); (case kK => first | exact rfl | assumption); (case kd => ktr_room); (case ku => ktr_units)); intro t9 h9 tk9 F9 N9; (try dsimp only); (try k_sweep))
  k_with "call ref" => (k_here; (with_reducible show wpAny _ _ (PySem.call (Value.ref 89) _) _ _ _); (try dsimp only [List.nil_append, List.cons_append]); k_dflt (refine' useInt ?kC ?kB ?kF ?kX ?kN ?kT ?kK ?kd ?ku ?_; (case kN => k_asm); (case kC => (with_reducible_and_instances refine' ones_c )); (case kB => k_asm); (case kF => k_asm); (case kX => k_asm); (case kT => k_asm); (case kK => first | exact rfl | assumption); (case kd => ktr_room); (case ku => ktr_units)); intro t9 h9 tk9 F9 N9; (try dsimp only); (try k_sweep))
  k_with "call ref" => (k_here; (with_reducible show wpAny _ _ (PySem.call (Value.ref 96) _) _ _ _); (try dsimp only [List.nil_append, List.cons_append]); k_dflt (refine' useInt ?kC ?kB ?kF ?kX ?kN ?kT ?kK ?kd ?ku ?_; (case kN => k_asm); (case kC => (with_reducible_and_instances refine' parity_c )); (case kB => k_asm); (case kF => k_asm); (case kX => k_asm); (case kT => k_asm); (case kK => first | exact rfl | assumption); (case kd => ktr_room); (case ku => ktr_units)); intro t9 h9 tk9 F9 N9; (try dsimp only); (try k_sweep))
  k_with "call ref" => (k_here; (with_reducible show wpAny _ _ (PySem.call (Value.ref 290) _) _ _ _); (try dsimp only [List.nil_append, List.cons_append]); k_dflt (refine' useInt ?kC ?kB ?kF ?kX ?kN ?kT ?kK ?kd ?ku ?_; (case kN => k_asm); (case kC => (with_reducible_and_instances refine' even_c )); (case kB => k_asm); (case kF => k_asm); (case kX => k_asm); (case kT => k_asm); (case kK => first | exact rfl | assumption); (case kd => ktr_room); (case ku => ktr_units)); intro t9 h9 tk9 F9 N9; (try dsimp only); (try k_sweep))
  k_with "call ref" => (k_here; (with_reducible show wpAny _ _ (PySem.call (Value.ref 208) _) _ _ _); (try dsimp only [List.nil_append, List.cons_append]); k_dflt (refine' useFlag ?kC ?kB ?kF ?kX ?kN ?kT ?kK ?kd ?ku ?_; (case kN => k_asm); (case kC => (with_reducible_and_instances refine' flag_u ?U (szp_c ?hm filter_ne ?c0 ?c1)); (case hm => refine' mem_filter ?m1 ?m2; (case m1 => k_mem); (case m2 => first | assumption | k_ne)); (case U => intro _ _ _ _ _ _ _; k_upd); (case c0 => first | assumption | decide | omega); (case c1 => first | assumption | decide | omega)); (case kB => k_asm); (case kF => k_asm); (case kX => k_asm); (case kT => k_asm); (case kK => first | exact rfl | assumption); (case kd => ktr_room); (case ku => ktr_units)); intro t9 ta9 tb9 tc9 td9 te9 tf9 tg9 h9 tk9 F9 N9; (try dsimp only at N9); (try dsimp only); (try k_sweep))
  k_with "call ref" => (k_here; (with_reducible show wpAny _ _ (PySem.call (Value.ref 215) _) _ _ _); (try dsimp only [List.nil_append, List.cons_append]); k_dflt (refine' useFlag ?kC ?kB ?kF ?kX ?kN ?kT ?kK ?kd ?ku ?_; (case kN => k_asm); (case kC => (with_reducible_and_instances refine' flag_u ?U (add_c ?hm filter_ne ?c0 ?c1 ?c2 ?c3)); (case hm => refine' mem_filter ?m1 ?m2; (case m1 => k_mem); (case m2 => first | assumption | k_ne)); (case U => intro _ _ _ _ _ _ _; k_upd); (case c0 => first | assumption | decide | omega); (case c1 => first | assumption | decide | omega); (case c2 => first | assumption | decide | omega); (case c3 => first | assumption | decide | omega)); (case kB => k_asm); (case kF => k_asm); (case kX => k_asm); (case kT => k_asm); (case kK => first | exact rfl | assumption); (case kd => ktr_room); (case ku => ktr_units)); intro t9 ta9 tb9 tc9 td9 te9 tf9 tg9 h9 tk9 F9 N9; (try dsimp only at N9); (try dsimp only); (try k_sweep))
  k_with "call ref" => (k_here; (with_reducible show wpAny _ _ (PySem.call (Value.ref 222) _) _ _ _); (try dsimp only [List.nil_append, List.cons_append]); k_dflt (refine' useFlag ?kC ?kB ?kF ?kX ?kN ?kT ?kK ?kd ?ku ?_; (case kN => k_asm); (case kC => (with_reducible_and_instances refine' flag_u ?U (sub_c ?hm filter_ne ?c0 ?c1 ?c2 ?c3)); (case hm => refine' mem_filter ?m1 ?m2; (case m1 => k_mem); (case m2 => first | assumption | k_ne)); (case U => intro _ _ _ _ _ _ _; k_upd); (case c0 => first | assumption | decide | omega); (case c1 => first | assumption | decide | omega); (case c2 => first | assumption | decide | omega); (case c3 => first | assumption | decide | omega)); (case kB => k_asm); (case kF => k_asm); (case kX => k_asm); (case kT => k_asm); (case kK => first | exact rfl | assumption); (case kd => ktr_room); (case ku => ktr_units)); intro t9 ta9 tb9 tc9 td9 te9 tf9 tg9 h9 tk9 F9 N9; (try dsimp only at N9); (try dsimp only); (try k_sweep))
  k_with "call ref" => (k_here; (with_reducible show wpAny _ _ (PySem.call (Value.ref 229) _) _ _ _); (try dsimp only [List.nil_append, List.cons_append]); k_dflt (refine' useFlag ?kC ?kB ?kF ?kX ?kN ?kT ?kK ?kd ?ku ?_; (case kN => k_asm); (case kC => (with_reducible_and_instances refine' flag_u ?U (logic_c ?hm filter_ne ?c0 ?c1)); (case hm => refine' mem_filter ?m1 ?m2; (case m1 => k_mem); (case m2 => first | assumption | k_ne)); (case U => intro _ _ _ _ _ _ _; k_upd); (case c0 => first | assumption | decide | omega); (case c1 => first | assumption | decide | omega)); (case kB => k_asm); (case kF => k_asm); (case kX => k_asm); (case kT => k_asm); (case kK => first | exact rfl | assumption); (case kd => ktr_room); (case ku => ktr_units)); intro t9 ta9 tb9 tc9 td9 te9 tf9 tg9 h9 tk9 F9 N9; (try dsimp only at N9); (try dsimp only); (try k_sweep))
  k_with "call ref" => (k_here; (with_reducible show wpAny _ _ (PySem.call (Value.ref 236) _) _ _ _); (try dsimp only [List.nil_append, List.cons_append]); k_dflt (refine' useFlag ?kC ?kB ?kF ?kX ?kN ?kT ?kK ?kd ?ku ?_; (case kN => k_asm); (case kC => (with_reducible_and_instances refine' flag_u ?U (inc_c ?hm filter_ne ?c0 ?c1)); (case hm => refine' mem_filter ?m1 ?m2; (case m1 => k_mem); (case m2 => first | assumption | k_ne)); (case U => intro _ _ _ _ _ _ _; k_upd); (case c0 => first | assumption | decide | omega); (case c1 => first | assumption | decide | omega)); (case kB => k_asm); (case kF => k_asm); (case kX => k_asm); (case kT => k_asm); (case kK => first | exact rfl | assumption); (case kd => ktr_room); (case ku => ktr_units)); intro t9 ta9 tb9 tc9 td9 te9 tf9 tg9 h9 tk9 F9 N9; (try dsimp only at N9); (try dsimp only); (try k_sweep))
  k_with "call ref" => (k_here; (with_reducible show wpAny _ _ (PySem.call (Value.ref 243) _) _ _ _); (try dsimp only [List.nil_append, List.cons_append]); k_dflt (refine' useFlag ?kC ?kB ?kF ?kX ?kN ?kT ?kK ?kd ?ku ?_; (case kN => k_asm); (case kC => (with_reducible_and_instances refine' flag_u ?U (dec_c ?hm filter_ne ?c0 ?c1)); (case hm => refine' mem_filter ?m1 ?m2; (case m1 => k_mem); (case m2 => first | assumption | k_ne)); (case U => intro _ _ _ _ _ _ _; k_upd); (case c0 => first | assumption | decide | omega); (case c1 => first | assumption | decide | omega)); (case kB => k_asm); (case kF => k_asm); (case kX => k_asm); (case kT => k_asm); (case kK => first | exact rfl | assumption); (case kd => ktr_room); (case ku => ktr_units)); intro t9 ta9 tb9 tc9 td9 te9 tf9 tg9 h9 tk9 F9 N9; (try dsimp only at N9); (try dsimp only); (try k_sweep))
  k_with "call ref" => (k_here; (with_reducible show wpAny _ _ (PySem.call (Value.ref 250) _) _ _ _); (try dsimp only [List.nil_append, List.cons_append]); k_dflt (refine' useFlag ?kC ?kB ?kF ?kX ?kN ?kT ?kK ?kd ?ku ?_; (case kN => k_asm); (case kC => (with_reducible_and_instances refine' flag_u ?U (neg_c ?hm filter_ne ?c0 ?c1)); (case hm => refine' mem_filter ?m1 ?m2; (case m1 => k_mem); (case m2 => first | assumption | k_ne)); (case U => intro _ _ _ _ _ _ _; k_upd); (case c0 => first | assumption | decide | omega); (case c1 => first | assumption | decide | omega)); (case kB => k_asm); (case kF => k_asm); (case kX => k_asm); (case kT => k_asm); (case kK => first | exact rfl | assumption); (case kd => ktr_room); (case ku => ktr_units)); intro t9 ta9 tb9 tc9 td9 te9 tf9 tg9 h9 tk9 F9 N9; (try dsimp only at N9); (try dsimp only); (try k_sweep))
  k_with "call ref" => (k_here; (with_reducible show wpAny _ _ (PySem.call (Value.ref 103) _) _ _ _); (try dsimp only [List.nil_append, List.cons_append]); k_dflt (refine' useStrs ?kC ?kB ?kF ?kX ?kN ?kT ?kK ?kd ?ku ?_; (case kN => k_asm); (case kC => (with_reducible_and_instances refine' cn_c )); (case kB => k_asm); (case kF => k_asm); (case kX => k_asm); (case kT => k_asm); (case kK => first | exact rfl | assumption); (case kd => ktr_room); (case ku => ktr_units)); intro D9 l9 h9 tk9 a9 s9 b9 F9 N9; (try k_lt b9); (try dsimp only); (try k_sweep))
  k_with "call ref" => (k_here; (with_reducible show wpAny _ _ (PySem.call (Value.ref 187) _) _ _ _); (try dsimp only [List.nil_append, List.cons_append]); k_dflt (refine' useInt ?kC ?kB ?kF ?kX ?kN ?kT ?kK ?kd ?ku ?_; (case kN => k_asm); (case kC => (with_reducible_and_instances refine' cnum_c ?c0); (case c0 => first | assumption | decide | omega)); (case kB => k_asm); (case kF => k_asm); (case kX => k_asm); (case kT => k_asm); (case kK => first | exact rfl | assumption); (case kd => ktr_room); (case ku => ktr_units)); intro t9 h9 tk9 F9 N9; (try dsimp only); (try k_sweep))
  k_with "call ref" => (k_here; (with_reducible show wpAny _ _ (PySem.call (Value.ref 194) _) _ _ _); (try dsimp only [List.nil_append, List.cons_append]); k_dflt (refine' useBool ?kC ?kB ?kF ?kX ?kN ?kT ?kK ?kd ?ku ?_; (case kN => k_asm); (case kC => (with_reducible_and_instances refine' hnum_c ?m1 ?m2); (case m1 => k_mem); (case m2 => k_mem)); (case kB => k_asm); (case kF => k_asm); (case kX => k_asm); (case kT => k_asm); (case kK => first | exact rfl | assumption); (case kd => ktr_room); (case ku => ktr_units)); intro h9 tk9 F9 N9; (try dsimp only); (try k_sweep))
  k_with "call ref" => (k_here; (with_reducible show wpAny _ _ (PySem.call (Value.ref 201) _) _ _ _); (try dsimp only [List.nil_append, List.cons_append]); k_dflt (refine' useBool ?kC ?kB ?kF ?kX ?kN ?kT ?kK ?kd ?ku ?_; (case kN => k_asm); (case kC => (with_reducible_and_instances refine' holds_c ?m1 ?m2 ?c0); (case m1 => k_mem); (case m2 => k_mem); (case c0 => first | assumption | decide | omega)); (case kB => k_asm); (case kF => k_asm); (case kX => k_asm); (case kT => k_asm); (case kK => first | exact rfl | assumption); (case kd => ktr_room); (case ku => ktr_units)); intro h9 tk9 F9 N9; (try dsimp only); (try k_sweep))
  k_with "call ref" => (k_here; (with_reducible show wpAny _ _ (PySem.call (Value.ref 285) _) _ _ _); (try dsimp only [List.nil_append, List.cons_append]); k_dflt (refine' useInt ?kC ?kB ?kF ?kX ?kN ?kT ?kK ?kd ?ku ?_; (case kN => k_asm); (case kC => (with_reducible_and_instances refine' signed_c ?c0 ?c1); (case c0 => first | assumption | decide | omega); (case c1 => first | assumption | decide | omega)); (case kB => k_asm); (case kF => k_asm); (case kX => k_asm); (case kT => k_asm); (case kK => first | exact rfl | assumption); (case kd => ktr_room); (case ku => ktr_units)); intro t9 h9 tk9 F9 N9; (try dsimp only); (try k_sweep))
  k_with "call ref" => (k_here; (with_reducible show wpAny _ _ (PySem.call (Value.ref 297) _) _ _ _); (try dsimp only [List.nil_append, List.cons_append]); k_dflt (refine' useDue ?kC ?kB ?kF ?kX ?kN ?kT ?kK ?kd ?ku ?_; (case kN => k_asm); (case kC => (with_reducible_and_instances refine' due_c ?c0 ?c1 ?c2 ?c3 ?c4 ?c5 ?c6 ?c7 ?c8); (case c0 => first | assumption | decide | omega); (case c1 => first | assumption | decide | omega); (case c2 => first | assumption | decide | omega); (case c3 => first | assumption | decide | omega); (case c4 => first | assumption | decide | omega); (case c5 => first | assumption | decide | omega); (case c6 => first | assumption | decide | omega); (case c7 => first | assumption | decide | omega); (case c8 => first | assumption | decide | omega)); (case kB => k_asm); (case kF => k_asm); (case kX => k_asm); (case kT => k_asm); (case kK => first | exact rfl | assumption); (case kd => ktr_room); (case ku => ktr_units)); intro Dd Dt ta9 tb9 tc9 td9 te9 tf9 tg9 h9 tk9 b9 b9' F9 N9; (try k_lt b9); (try k_lt2 b9'); (try dsimp only); (try k_sweep))
  k_with "call ref" => (k_here; (with_reducible show wpAny _ _ (PySem.call (Value.ref 302) _) _ _ _); (try dsimp only [List.nil_append, List.cons_append]); k_dflt (refine' useCond ?kC ?kB ?kF ?kX ?kN ?kT ?kK ?kd ?ku ?_; (case kN => k_asm); (case kC => (with_reducible_and_instances refine' cond_c ?c0 ?c1 ?c2 ?c3 ?c4); (case c0 => first | assumption | exact Int.emod_nonneg _ (Int.ne_of_gt (kbt_pos _))); (case c1 => first | assumption | exact Int.emod_lt_of_pos _ (kbt_pos _)); (case c2 => first | assumption | exact Int.emod_nonneg _ (Int.ne_of_gt (kbt_pos _))); (case c3 => first | assumption | exact Int.emod_lt_of_pos _ (kbt_pos _)); (case c4 => first | assumption | exact pow_le (And.right hz9z))); (case kB => k_asm); (case kF => k_asm); (case kX => k_asm); (case kT => k_asm); (case kK => first | exact rfl | assumption); (case kd => ktr_room); (case ku => ktr_units)); intro D9 zs9 h9 tk9 hz9 b9 F9 N9; (try k_lt b9); (try dsimp only); (try k_sweep))
  k_with "call ref" => (k_here; (with_reducible show wpAny _ _ (PySem.call (Value.ref 307) _) _ _ _); (try dsimp only [List.nil_append, List.cons_append]); k_dflt (refine' useJunk ?kC ?kB ?kF ?kX ?kN ?kT ?kK ?kd ?ku ?_; (case kN => k_asm); (case kC => (with_reducible_and_instances refine' junk_u ?U ?hp ?hc); (case U => intro _ _ _ _ _ _; k_upd); (case hp => assumption); (case hc => first | assumption | decide | omega)); (case kB => k_asm); (case kF => k_asm); (case kX => k_asm); (case kT => k_asm); (case kK => first | exact rfl | assumption); (case kd => ktr_room); (case ku => ktr_units)); intro TDj xj dj Dj κj r1 r2 r3 r4 r5 r6 r7 t1 t2 t3 t4 t5 t6 t7 st9 sd9 kk9 ta9 tb9 tc9 h9 tk9 hb9 hp9 l9 l9' l9'' a9 b9 F9 N9; (try dsimp only at N9); (try k_dflt (have z9 : ∀ p ∈ own9, p.1 ≠ dj := (fun p hp => Nat.ne_of_lt (a9 p (by repeat (first | exact hp | refine List.Mem.tail _ ?_)))))); (try k_lt a9); (try k_lt2 l9); (try k_lt2 l9'); (try k_lt2 l9''); (try simp only [LCg.Off1, and_true] at b9); (try dsimp only); (try k_sweep))
  k_with "call ref" => (k_here; (with_reducible show wpAny _ _ (PySem.call (Value.ref 278) _) _ _ _); (try dsimp only [List.nil_append, List.cons_append]); k_dflt (refine' useNum ?kC ?kB ?kF ?kX ?kN ?kT ?kK ?kd ?ku ?_; (case kN => k_asm); (case kC => (with_reducible_and_instances refine' number_u ?U ?hp ?hc ?h0 ?h1); (case U => intro _ _ _ _ _ _; k_upd); (case hp => assumption); (case hc => first | assumption | decide | omega); (case h0 => first | assumption | decide | omega); (case h1 => first | assumption | decide | omega)); (case kB => k_asm); (case kF => k_asm); (case kX => k_asm); (case kT => k_asm); (case kK => first | exact rfl | assumption); (case kd => ktr_room); (case ku => ktr_units)); intro r9 st9 sd9 kk9 t9 ta9 tb9 tc9 h9 tk9 p9 F9 N9; (try dsimp only at N9); (try dsimp only); (try k_sweep))
  k_with "call ref" => (k_here; (with_reducible show wpAny _ _ (PySem.call (Value.ref 124) _) _ _ _); (try dsimp only [List.nil_append, List.cons_append]); k_dflt (refine' useTold ?kC ?kB ?kF ?kX ?kN ?kT ?kK ?kd ?ku ?_; (case kN => k_asm); (case kC => (with_reducible_and_instances refine' told_c ?m1 ?m2); (case m1 => k_mem); (case m2 => k_mem)); (case kB => k_asm); (case kF => k_asm); (case kX => k_asm); (case kT => k_asm); (case kK => first | exact rfl | assumption); (case kd => ktr_room); (case ku => ktr_units)); intro T9 h9 tk9 a9 F9 N9; (try k_lt a9); (try dsimp only); (try k_sweep))
  k_with "call ref" => (k_here; (with_reducible show wpAny _ _ (PySem.call (Value.ref 59) _) _ _ _); (try dsimp only [List.nil_append, List.cons_append]); k_dflt (refine' useMach ?kC ?kB ?kF ?kX ?kN ?kT ?kK ?kd ?ku ?_; (case kN => k_asm); (case kC => (with_reducible_and_instances refine mach_c)); (case kB => k_asm); (case kF => k_asm); (case kX => k_asm); (case kT => k_asm); (case kK => first | exact rfl | assumption); (case kd => ktr_room); (case ku => ktr_units)); intro x9 tp9 D9 vs9 h9 tk9 q9 q9' F9 N9; (try dsimp only); (try k_sweep))
  k_with "call ref" => (k_here; (with_reducible show wpAny _ _ (PySem.call (Value.ref 314) _) _ _ _); (try dsimp only [List.nil_append, List.cons_append]); k_dflt (refine' useDeeds ?kC ?kB ?kF ?kX ?kN ?kT ?kK ?kd ?ku ?_; (case kN => k_asm); (case kC => (with_reducible_and_instances refine' deeds_u ?U ?c0 ?c1 ?c2 ?c3 ?hp ?hc); (case U => intro _ _ _ _ _ _; k_upd); (case hp => assumption); (case hc => first | assumption | decide | omega); (case c0 => first | assumption | decide | omega); (case c1 => first | assumption | decide | omega); (case c2 => first | assumption | decide | omega); (case c3 => first | assumption | decide | omega)); (case kB => k_asm); (case kF => k_asm); (case kX => k_asm); (case kT => k_asm); (case kK => first | exact rfl | assumption); (case kd => ktr_room); (case ku => ktr_units)); intro st9 sd9 kk9 ta9 tb9 tc9 h9 tk9 p9 F9 N9; (try dsimp only at N9); (try dsimp only); (try k_sweep))
  k_with "call ref" => (k_here; (with_reducible show wpAny _ _ (PySem.call (Value.ref 187) _) _ _ _); (try dsimp only [List.nil_append, List.cons_append]); k_dflt (refine' useR (cnumR_c ?hin) ?kB ?kF ?kX ?kN ?kT ?kK ?kd ?ku ?_; (case kN => k_asm); (case hin => first | assumption | exact near_of (n := 12) (by decide +kernel) rfl (by assumption) (by assumption)); (case kB => k_asm); (case kF => k_asm); (case kX => k_asm); (case kT => k_asm); (case kK => first | exact rfl | assumption); (case kd => ktr_room); (case ku => ktr_units)); intro e9 t9 ws9 G9 h9 tk9 FG9 R9 U9; (try dsimp only))
  k_with "call ref" => (k_here; (with_reducible show wpAny _ _ (PySem.call (Value.ref 159) _) _ _ _); (try dsimp only [List.nil_append, List.cons_append]); k_dflt (refine' useR (getR_c ?hin) ?kB ?kF ?kX ?kN ?kT ?kK ?kd ?ku ?_; (case kN => k_asm); (case hin => first | assumption | exact near_of (n := 12) (by decide +kernel) rfl (by assumption) (by assumption)); (case kB => k_asm); (case kF => k_asm); (case kX => k_asm); (case kT => k_asm); (case kK => first | exact rfl | assumption); (case kd => ktr_room); (case ku => ktr_units)); intro e9 t9 ws9 G9 h9 tk9 FG9 R9 U9; (try dsimp only))
  k_with "call ref" => (k_here; (with_reducible show wpAny _ _ (PySem.call (Value.ref 166) _) _ _ _); (try dsimp only [List.nil_append, List.cons_append]); k_dflt (refine' useR (putR_c ?hin) ?kB ?kF ?kX ?kN ?kT ?kK ?kd ?ku ?_; (case kN => k_asm); (case hin => first | assumption | exact near_of (n := 12) (by decide +kernel) rfl (by assumption) (by assumption)); (case kB => k_asm); (case kF => k_asm); (case kX => k_asm); (case kT => k_asm); (case kK => first | exact rfl | assumption); (case kd => ktr_room); (case ku => ktr_units)); intro e9 t9 ws9 G9 h9 tk9 FG9 R9 U9; (try dsimp only))
  k_with "call ref" => (k_here; (with_reducible show wpAny _ _ (PySem.call (Value.ref 201) _) _ _ _); (try dsimp only [List.nil_append, List.cons_append]); k_dflt (refine' useR (holdsR_c ?hin) ?kB ?kF ?kX ?kN ?kT ?kK ?kd ?ku ?_; (case kN => k_asm); (case hin => first | assumption | exact near_of (n := 12) (by decide +kernel) rfl (by assumption) (by assumption)); (case kB => k_asm); (case kF => k_asm); (case kX => k_asm); (case kT => k_asm); (case kK => first | exact rfl | assumption); (case kd => ktr_room); (case ku => ktr_units)); intro e9 t9 ws9 G9 h9 tk9 FG9 R9 U9; (try dsimp only))
  k_with "binaryOp FloorDiv int int" => (k_here; (with_reducible refine fdiv_pos ?fda ?fdb ?_); (case fda => first | assumption | decide); (case fdb => first | assumption | decide +kernel))
  k_with "binaryOp Mod int int" => (k_here; (with_reducible refine fmod_pos ?fma ?_); (case fma => first | assumption | decide))
  k_with "eval IfExp" => (k_here; with_reducible refine ifexp_int ?_)
  k_with "subscriptTail Name Constant ref int" => (k_here; (with_reducible show wpAny _ _ (subscriptTail _ _ (Value.ref _) (Value.int _ _)) _ _ _); k_dflt (refine' item_at ?iN ?im ?ia ?ib ?ix ?_ ?is; (case iN => k_asm); (case im => k_mem); (case ia => decide); (case ib => decide); (case ix => rfl); (case is => with_unfolding_all rfl); k_whole))
  k_with "subscriptTail" => (k_here; (with_reducible show wpAny _ _ (subscriptTail _ _ (Value.ref _) (Value.int (ite _ _ _) _)) _ _ _); k_dflt (refine' sub01 ?N ?m ?e ?_ ?s; (case N => k_asm); (case m => k_mem); (case e => assumption); (case s => with_unfolding_all rfl)); intro t9)
  k_with "call builtin:list.index" => (k_here; (with_reducible show wpAny _ _ (PySem.call (Value.builtin _) [Value.ref _, Value.str _ _]) _ _ _); k_dflt (refine' sindex ?N ?m ?i ?e ?z ?_; (case N => k_asm); (case m => k_mem); (case i => assumption); (case e => assumption); (case z => decide)))
  k_with "compareOp NotIn str ref" => (k_here; k_dflt (refine' notin_list_strs ?l ?i ?_; (case l => exact PySem.IsL.isList (n := 0) (News.get (by k_asm) (by k_mem))); (case i => assumption)))
  k_with "call builtin:str.split" => (k_here; (with_reducible show wpAny _ _ (PySem.call (Value.builtin "str.split") _) _ _ _); k_dflt (first | (refine KSpl.split1 (by k_asm) (by k_asm) (by decide) ?_ (by kspl_size)) | (refine KSpl.split0 (by k_asm) (by k_asm) ?_ (by kspl_size))); intro D' l' h' k' e' a' F' N' l1; (try k_lt l1); kspl_eval e'; rw [e'] at a'; (have s9 := strsAre_of_values l'); rw [a'] at s9)
  k_with "call builtin:str.split" => (k_here; (rename Txt.split _ _ = _ => hsp9); (with_reducible show wpAny _ _ (PySem.call (Value.builtin "str.split") _) _ _ _); k_dflt (refine KSpl.split1 (by k_asm) (by k_asm) (by decide) ?_ (by assumption)); intro D' l' h' k' e' a' F' N' l1; (try k_lt l1); rw [hsp9] at e')
  k_with "eval ListComp" => (k_here; (with_reducible show wpAny _ _ (PySem.eval (Expr.ListComp _ [⟨Expr.Tuple _ _ _, _, _, _⟩] _ _) _) _ _ _); k_dflt (refine' zip_comp (cl := []) ?a0 ?a1 ?a2 ?a3 ?a4 ?a5 ?a6 ?a7 ?a8 ?_ ?a9; (case a0 => k_asm); (case a1 => rfl); (case a2 => rfl); (case a3 => decide); (case a4 => rfl); (case a5 => decide); (case a6 => rfl); (case a7 => rfl); (case a8 => decide); (case a9 => intro _; rfl)))
  k_with "call type:zip" => (k_here; k_dflt (focus (refine' zip_strs ?z1 ?z2 ?z3 ?z4 ?z5 rows8 ?_ ?_; (case z1 => k_asm); (case z2 => k_asm); (case z3 => k_mem); (case z4 => k_mem); (case z5 => exact Nat.le_of_ble_eq_true rfl); (intro nm' t' c' p' q' hsp hnl; unfold ZTurn; intro s' R' C' oC' m' E' hC ha hb F' N'); rotate_left; (intro D' zs' h' tk' hz F' N' l1; (try k_lt l1)); rotate_right)))
  k_with "CompSrc" => (k_here; k_dflt (focus (refine LCg.CompSrc.range (by rfl) (by k_asm) (by k_asm) (by assumption) (by first | decide | rfl) (by first | rfl | decide) (by exact Nat.le_of_ble_eq_true rfl) ?_; intro g'; (refine' jk_rest ?j1 ?j2 ?j3 ?_ ?_; (case j1 => assumption); (case j2 => rfl); (case j3 => assumption); (intro c8 st8 sd8 kk8 ta8 tb8 tc8 v8 I' oI' C' oC' D' m' ys' h' tk' E' hp8 hc8 hC' hx' F' N' off' ne'; (have off8 := off'); (simp only [LCg.Off3] at off8); (obtain ⟨oa8, ob8, oc8⟩ := off8); (have off7 := off'); (clear off'); (with_reducible refine id ?_)); rotate_left; (intro r1 r2 r3 r4 r5 r6 r7 t1 t2 t3 t4 t5 t6 t7 st8 sd8 kk8 ta8 tb8 tc8 hb8 hp8); rotate_right))))
  k_with "CompEnd" => (k_here; (rename News _ _ _ _ => N8); (rename LCg.Off3 _ _ _ _ => o8); k_dflt (exact LCg.CompEnd.intro (by assumption) N8 _ (fun p hp => hp) o8 True.intro ⟨_, _, _, _, _, _, _, _, rfl, ⟨by assumption, by assumption⟩, by assumption, rfl⟩))
  k_with "call ref" => (k_here; (with_reducible show wpAny _ _ (PySem.call (Value.ref 176) _) _ _ _); (try dsimp only [List.nil_append, List.cons_append]); k_dflt (refine' call_cls ?k1 ?k2 ?k3 ?k4 ?k5 ?k6 ?_; (case k1 => k_asm); (case k2 => k_asm); (case k3 => k_asm); (case k4 => k_is); (case k5 => k_is); (case k6 => k_is); k_whole; intro x' d' h' F' N' l1 l2; (try k_lt l1); (try k_lt2 l2); (try k_sweep); (refine' code_def ?k1 ?k2 ?k3 ?k4 ?k5 ?kA ?kF ?kK ?k6 ?k7 ?k8 ?k9 ?kB ?_ ?c2 ?c3 ?c4 ?c5; (case kA => exact rfl); (case kF => exact rfl); (case kK => first | assumption | exact rfl); (case k1 => k_asm); (case k2 => k_asm); (case k3 => k_asm); (case k4 => k_asm); (case k5 => k_asm); (case k6 => k_is); (case k7 => k_is); (case k8 => ktr_room); (case k9 => exact BindsTo.of_eq rfl); (case c5 => decide); (case kB => exact locs rfl); (case c2 => exact rfl); (case c3 => exact rfl); (case c4 => exact rfl); k_whole; intro g' L' h' FG' F' N' B' X' T'; (try dsimp only); (try k_fold))))
  k_with "binaryOp LShift int int" => (k_here; (with_reducible refine shl_one ?kb1 ?kb2 ?_); (case kb1 => first | assumption | decide | omega); (case kb2 => first | assumption | decide | omega))
  k_with "compareOp NotEq int int" => (k_here; (with_reducible refine ne_self ?_))
  k_with "compareOp Eq int int" => (k_here; (with_reducible show wpAny _ _ (compareOp _ (Value.int (-1) _) _) _ _ _); with_reducible refine eq_m1 ?_)
  k_with "binaryOp Mult int int" => (k_here; (rename PInv _ _ => pI9); (have pI8 := pmul pI9 (by omega)); with_reducible refine mul_int ?_ pI8)
  k_with "getMethod" => (k_here; (with_reducible show wpAny _ _ (getMethod (Value.type "Exception") _ _) _ _ _); k_dflt (refine' method_type ?F ?X ?t ?s ?e ?q ?_; (case F => k_asm); (case X => k_asm); (case t => first | rfl | kernel_rfl); (case s => decide +kernel); (case e => k_is); (case q => rfl)))
  k_with "call builtin:Exception.__init__" => (k_here; k_dflt (refine' exc_init ?F ?N ?X ?U ?z ?_; (case F => k_asm); (case N => k_asm); (case X => k_asm); (case U => intro _; k_upd); (case z => exact Nat.le_of_ble_eq_true rfl)); intro tp9 h9 F9 N9 l9; (have q8 := fun p hp => Nat.ne_of_lt (l9 p (.tail _ (.tail _ hp)))); (try k_lt l9))
  k_with "setAttr ref" => (k_here; k_dflt (refine' x_set0 ?F ?N ?X ?U ?n ?e ?_; (case F => k_asm); (case N => k_asm); (case X => k_asm); (case U => intro _; k_upd); (case n => k_is); (case e => intro _; kernel_rfl); intro D9 h9 tk9 F9 N9 l9; (have q9 := fun p hp => Nat.ne_of_lt (l9 p (.tail _ (.tail _ (.tail _ hp))))); (try k_lt l9)))
  k_with "setAttr ref" => (k_here; (with_reducible show wpAny _ _ (setAttr _ _ Value.none) _ _ _); k_dflt (refine' x_set1 ?F ?N ?X ?m ?U ?n ?l ?z ?e ?_; (case F => k_asm); (case N => k_asm); (case X => k_asm); (case m => k_mem); (case e => intro _; kernel_rfl); (case U => intro _; k_upd); (case n => k_is); (case l => rfl); (case z => exact Nat.le_of_ble_eq_true rfl); intro h9 tk9 F9 N9))
  k_with "exec Raise some none" => (k_here; k_dflt (refine' raise59 ?hh ?_; (case hh => rfl)))
  k_with "RaiseBack" => (k_here; k_dflt (refine ⟨_, _, _, _, rfl, Frag.In.keeps (by assumption) (Fr.keep (by k_asm)) _ _ rfl, (News.get (by k_asm) (.head _)), rfl, ?_⟩))
  k_with "execs cons" => (k_here; (with_reducible show wpAny _ _ (execs (Stmt.Assign _ _ ⟨208, _, _, _⟩ :: _) _) _ _ _); clear M208; (rename News _ _ _ _ => N9); k_dflt (have N8 := keep4 (a := xj) (b := dj) (c := Dj) (d := pa) N9 (by k_mem) (by k_mem) (by k_mem) (by k_mem)); clear N9; walk_say "CUT208")
  k_with "execs cons" => (k_here; (with_reducible show wpAny _ _ (execs (Stmt.Assign _ _ ⟨211, _, _, _⟩ :: _) _) _ _ _); clear M211; (rename News _ _ _ _ => N9); k_dflt (have N8 := keep4 (a := xj) (b := dj) (c := Dj) (d := pa) N9 (by k_mem) (by k_mem) (by k_mem) (by k_mem)); clear N9; walk_say "CUT211")
  k_with "execs cons" => (k_here; (with_reducible show wpAny _ _ (execs (Stmt.For _ _ _ _ ⟨214, _, _, _⟩ :: _) _) _ _ _); clear M214; (generalize Dd = Dk at *); (rename News _ _ _ _ => N9); k_dflt (have N8 := keep4 (a := xj) (b := dj) (c := Dj) (d := pa) N9 (by k_mem) (by k_mem) (by k_mem) (by k_mem)); k_dflt (replace N8 := keep1 (a := Dk) N9 N8 (by k_mem)); clear N9; walk_say "CUT214")
  k_with "execs cons" => (k_here; (with_reducible show wpAny _ _ (execs (Stmt.If _ _ _ ⟨218, _, _, _⟩ :: _) _) _ _ _); clear M218; (rename News _ _ _ _ => N9); k_dflt (have N8 := keep4 (a := xj) (b := dj) (c := Dj) (d := pa) N9 (by k_mem) (by k_mem) (by k_mem) (by k_mem)); k_dflt (replace N8 := keep1 (a := Dk) N9 N8 (by k_mem)); k_dflt (replace N8 := keep1 (a := Dd) N9 N8 (by k_mem)); clear N9; walk_say "CUT218")
  k_with "execs cons" => (k_here; (with_reducible show wpAny _ _ (execs (Stmt.Assign _ _ ⟨220, _, _, _⟩ :: _) _) _ _ _); clear M220; (rename News _ _ _ _ => N9); k_dflt (have N8 := keep4 (a := xj) (b := dj) (c := Dj) (d := pa) N9 (by k_mem) (by k_mem) (by k_mem) (by k_mem)); clear N9; walk_say "CUT220")
  k_with "execs cons" => (k_here; (with_reducible show wpAny _ _ (execs (Stmt.Assign _ _ ⟨223, _, _, _⟩ :: _) _) _ _ _); clear M223; (rename News _ _ _ _ => N9); k_dflt (have N8 := keep4 (a := xj) (b := dj) (c := Dj) (d := pa) N9 (by k_mem) (by k_mem) (by k_mem) (by k_mem)); k_dflt (replace N8 := keep1 (a := Dd) N9 N8 (by k_mem)); clear N9; walk_say "CUT223")
  trivial
end Mine
namespace Mine
section
variable {prog : Program} {w : World} {A : Around} {h₀ : Heap} {L : Addr} {m : Str → Option Value} {env : Env} {ct elt : PySem.Expr} {x : Str} {scope : Scope} {cl : List (Str × Addr)} {s : Shared} {S : Led → Prop} {Fin : List Value → Led → Prop} {news : Led}
def HEl (news : Led) (g : Str → Bool) (nm : Str) (y : Value) (news' : Led) : Prop := g nm = true ∧ news' = news ∧ ∃ t, y = .str nm t
def HNo (news : Led) (g : Str → Bool) (nm : Str) (news' : Led) : Prop := g nm = false ∧ news' = news
theorem ht_rest {n : Nat} {vs : List Value} {names : List Str} (g : Str → Bool) (hv : StrsAre vs names) (hn : n = vs.length)
    (turn : ∀ nm t I oI C oC D m₂ ys h tk (E' : Value → Shared → Prop), nm ∈ names → LCg.NsObj oC m₂ → m₂ x = some (.str nm t) → Fr h₀ L h m → News h₀ L h ((I, oI) :: (C, oC) :: (D, LCg.lst ys) :: news) → LCg.Off3 I C D news → ((@Ne Nat I C) ∧ (@Ne Nat I D) ∧ (@Ne Nat C D)) →
      wpAny (model prog w) A (isTrue ct (compEnvC scope cl C env) (eval ct (compEnvC scope cl C env))) (fun b s' => if b = true then wpAny (model prog w) A (eval elt (compEnvC scope cl C env)) (LCg.CompEnd h₀ L m { s with heap := h, toks := tk } I oI C oC D (LCg.lst ys) S (fun y news' => HEl news g nm y news')) E' s'
        else LCg.CompEnd h₀ L m { s with heap := h, toks := tk } I oI C oC D (LCg.lst ys) S (fun _ news' => HNo news g nm news') Value.none s') E' { s with heap := h, toks := tk })
    (fin : ∀ ys, StrsAre ys (names.filter g) → Fin ys news) : LCt.CompRestT prog w A h₀ L m env ct elt x scope cl s S (fun i v => vs.toArray[i]? = some v) Fin n 0 [] news := by
  subst hn
  have hl := hv.length
  have key : ∀ (j i : Nat) (ys : List Value), i + j = vs.length → StrsAre ys ((names.take i).filter g) → LCt.CompRestT prog w A h₀ L m env ct elt x scope cl s S (fun i v => vs.toArray[i]? = some v) Fin j i ys news := by
    intro j
    induction j with
    | zero =>
      intro i ys hi hy
      have e : i = names.length := by omega
      subst e
      rw [List.take_length] at hy
      exact LCt.CompRestT.zero (fin ys hy)
    | succ j ih =>
      intro i ys hi hy
      refine LCt.CompRestT.succ ?_
      intro v I oI C oC D m₂ h tk E' hv' hC hx F N off ne
      obtain ⟨nm, t, hk, hnm⟩ := hv.item i v (by simpa using hv')
      rw [hk] at hx
      refine wpAny_mono (turn nm t I oI C oC D m₂ ys h tk E' (List.mem_of_getElem? hnm) hC hx F N off ne) (fun b s₂ hq => ?_) fun _ _ e => e
      cases b with
      | true =>
        simp only [if_true] at hq ⊢
        refine wpAny_mono hq (fun y s₃ hr => ?_) fun _ _ e => e
        obtain ⟨h', tk', nw, e, F', N', off', hS, hg, hn', t', hy'⟩ := hr
        rw [hn'] at N' off' hS
        refine ⟨h', tk', news, e, F', N', off', hS, ?_⟩
        rw [hy']
        refine ih (i + 1) _ (by omega) ?_
        rw [List.take_add_one, hnm, List.filter_append]
        have : List.filter g (Option.toList (some nm)) = [nm] := by simp [hg]
        rw [this]
        exact hy.append' (.cons nm t' .nil)
      | false =>
        simp only [Bool.false_eq_true, if_false] at hq ⊢
        obtain ⟨h', tk', nw, e, F', N', off', hS, hg, hn'⟩ := hq
        rw [hn'] at N' off' hS
        refine ⟨h', tk', news, e, F', N', off', hS, ih (i + 1) _ (by omega) ?_⟩
        rw [List.take_add_one, hnm, List.filter_append]
        have : List.filter g (Option.toList (some nm)) = [] := by simp [hg]
        rw [this, List.append_nil]
        exact hy
  exact key vs.length 0 [] (by omega) (by simp only [List.take_zero, List.filter_nil]; exact .nil)
end
theorem filt_pick {cf pf zf sf of : Int} : names16.filter (fun nm => hspec (names16.idxOf nm : Nat) cf pf zf sf of) = pickL [hpair 0 cf pf zf sf of, hpair 1 cf pf zf sf of, hpair 2 cf pf zf sf of, hpair 3 cf pf zf sf of, hpair 4 cf pf zf sf of, hpair 5 cf pf zf sf of, hpair 6 cf pf zf sf of, hpair 7 cf pf zf sf of] pq8 := by
  have pr : ∀ (h : Str → Bool) (p q : Str) (b : Bool) (r : List Str), h p = b → h q = !b → (p :: q :: r).filter h = (if b = true then p else q) :: r.filter h := by
    intro h p q b r hp hq
    rw [List.filter_cons, List.filter_cons, hp, hq]
    cases b <;> rfl
  unfold names16 pq8
  simp only [pickL]
  rw [pr _ _ _ (hpair 0 cf pf zf sf of) _ rfl rfl, pr _ _ _ (hpair 1 cf pf zf sf of) _ rfl rfl, pr _ _ _ (hpair 2 cf pf zf sf of) _ rfl rfl, pr _ _ _ (hpair 3 cf pf zf sf of) _ rfl rfl,
    pr _ _ _ (hpair 4 cf pf zf sf of) _ rfl rfl, pr _ _ _ (hpair 5 cf pf zf sf of) _ rfl rfl, pr _ _ _ (hpair 6 cf pf zf sf of) _ rfl rfl, pr _ _ _ (hpair 7 cf pf zf sf of) _ rfl rfl]
  rfl
theorem cond_flags {x y W H : Int} (hW : W = 2 * H) (hH : 0 < H) (x0 : 0 ≤ x) (x1 : x < W) (y0 : 0 ≤ y) (y1 : y < W) {cf pf zf sf of : Int}
    (hcf : cf = dC x y 0 W (-1)) (hpf : pf = even8 (dR x y 0 W (-1))) (hzf : zf = dZ (dR x y 0 W (-1))) (hsf : sf = dS (dR x y 0 W (-1)) W) (hof : of = dO x y 0 W (-1)) :
    [hpair 0 cf pf zf sf of, hpair 1 cf pf zf sf of, hpair 2 cf pf zf sf of, hpair 3 cf pf zf sf of, hpair 4 cf pf zf sf of, hpair 5 cf pf zf sf of, hpair 6 cf pf zf sf of, hpair 7 cf pf zf sf of] = condB x y W := by
  have e0 : dR x y 0 W (-1) = (x - y) % W := by unfold dR; congr 1; omega
  have e1 : x + -1 * (y + 0) = x - y := by omega
  have e2 : sg x W + -1 * (sg y W + 0) = sg x W - sg y W := by omega
  have eh : W / 2 = H := by omega
  have hr : (y ≤ x ∧ (x - y) % W = x - y) ∨ (x < y ∧ (x - y) % W = x - y + W) := by
    by_cases h : y ≤ x
    · exact .inl ⟨h, Int.emod_eq_of_lt (by omega) (by omega)⟩
    · refine .inr ⟨by omega, ?_⟩
      rw [← Int.add_emod_right, Int.emod_eq_of_lt (by omega) (by omega)]
  have hx : (2 * x < W ∧ sg x W = x) ∨ (W ≤ 2 * x ∧ sg x W = x - W) := by unfold sg; split <;> omega
  have hy : (2 * y < W ∧ sg y W = y) ∨ (W ≤ 2 * y ∧ sg y W = y - W) := by unfold sg; split <;> omega
  unfold dC at hcf
  unfold dO at hof
  unfold dZ at hzf
  unfold dS at hsf
  rw [e0, e1] at hcf
  rw [e0] at hpf hzf hsf
  rw [e2, eh] at hof
  unfold condB
  rw [eh]
  generalize (x - y) % W = r at *
  generalize sg x W = sx at *
  generalize sg y W = sy at *
  have c : (cf = 1 ∧ x < y) ∨ (cf = 0 ∧ y ≤ x) := by
    rcases hr with ⟨h1, h2⟩ | ⟨h1, h2⟩
    · exact .inr ⟨by rw [hcf, if_pos h2.symm], h1⟩
    · exact .inl ⟨by rw [hcf, if_neg (by clear hx hy hof hzf hsf hcf; omega)], h1⟩
  have z : (zf = 1 ∧ x = y) ∨ (zf = 0 ∧ x ≠ y) := by
    by_cases h : r = 0
    · exact .inl ⟨by rw [hzf, if_pos h], by clear hx hy hof hzf hsf hcf c; omega⟩
    · exact .inr ⟨by rw [hzf, if_neg h], by clear hx hy hof hzf hsf hcf c; omega⟩
  have sf' : (sf = 1 ∧ W ≤ 2 * r) ∨ (sf = 0 ∧ 2 * r < W) := by
    by_cases h : 2 * r ≥ W
    · exact .inl ⟨by rw [hsf, if_pos h], h⟩
    · exact .inr ⟨by rw [hsf, if_neg h], Int.not_le.mp h⟩
  have o : (of = 1 ∧ ¬(0 - H ≤ sx - sy ∧ sx - sy < H)) ∨ (of = 0 ∧ (0 - H ≤ sx - sy ∧ sx - sy < H)) := by
    by_cases h : 0 - H ≤ sx - sy ∧ sx - sy < H
    · exact .inr ⟨by rw [hof, if_pos h], h⟩
    · exact .inl ⟨by rw [hof, if_neg h], h⟩
  clear hcf hof hzf hsf
  have b0 : (of == 1) = !(decide (0 - H ≤ sx - sy) && decide (sx - sy < H)) := by
    rw [← Bool.decide_and, Bool.eq_iff_iff, beq_iff_eq, Bool.not_eq_true', decide_eq_false_iff_not]; clear c z sf' hr hx hy; omega
  have b1 : (cf == 1) = decide (x < y) := by rw [Bool.eq_iff_iff, beq_iff_eq, decide_eq_true_iff]; clear z sf' o hr hx hy; omega
  have b2 : (zf == 1) = (x == y) := by rw [Bool.eq_iff_iff, beq_iff_eq, beq_iff_eq]; clear c sf' o hr hx hy; omega
  have b3 : (cf == 1 || zf == 1) = decide (x ≤ y) := by rw [Bool.eq_iff_iff, Bool.or_eq_true, beq_iff_eq, beq_iff_eq, decide_eq_true_iff]; clear sf' o hr hx hy; omega
  have b4 : (sf == 1) = decide (W ≤ 2 * r) := by rw [Bool.eq_iff_iff, beq_iff_eq, decide_eq_true_iff]; clear c z o hr hx hy; omega
  have e6 : sf ≠ of ↔ sx < sy := by
    clear b0 b1 b2 b3 b4 c z
    rcases o with ⟨o1, o2⟩ | ⟨o1, o2⟩ <;> rcases sf' with ⟨s1, s2⟩ | ⟨s1, s2⟩ <;> subst o1 <;> subst s1
    · exact ⟨fun h => absurd rfl h, fun h => by omega⟩
    · exact ⟨fun _ => by omega, fun _ => by decide⟩
    · exact ⟨fun _ => by omega, fun _ => by decide⟩
    · exact ⟨fun h => absurd rfl h, fun h => by omega⟩
  have b6 : (sf != of) = decide (sx < sy) := by rw [Bool.eq_iff_iff, bne_iff_ne, decide_eq_true_iff]; exact e6
  have q7 : x = y ↔ sx = sy := by clear b0 b1 b2 b3 b4 b6 c z o sf' e6 hr; omega
  have b7 : (zf == 1 || sf != of) = decide (sx ≤ sy) := by
    rw [b2, b6, Bool.eq_iff_iff, Bool.or_eq_true, beq_iff_eq, decide_eq_true_iff, decide_eq_true_iff, q7]
    clear b0 b1 b2 b3 b4 b6 c z o sf' e6 hr hx hy q7
    omega
  show [of == 1, cf == 1, zf == 1, cf == 1 || zf == 1, sf == 1, pf == 1, sf != of, zf == 1 || sf != of] = _
  rw [b7, b3, b0, b1, b2, b4, b6, hpf]
end Mine
namespace Mine
theorem eq_m1 {prog : Program} {w : World} {A : Around} {E : Value → Shared → Prop} {s : Shared} {t u : Tok} {Q : Value → Shared → Prop} (h : Q (.bool false) s) : wpAny (model prog w) A (compareOp .Eq (.int (-1) t) (.int 1 u)) Q E s := eq_int h
theorem dZ_if {z : Int} : dZ z = if (z == 0) = true then 1 else 0 := by
  unfold dZ
  by_cases h : z = 0 <;> simp [h]
theorem dS_if {z W : Int} : dS z W = if decide (W ≤ 2 * z) = true then 1 else 0 := by
  unfold dS
  by_cases h : W ≤ 2 * z <;> simp [h]
theorem decEq_self (l : List Int) : Value.bool (decide (l = l)) = .bool true := by rw [decide_eq_true rfl]
theorem keep4 {h₀ h : Heap} {L : Addr} {news : Led} {a b c d : Addr} {o1 o2 o3 o4 : Obj} (N : News h₀ L h news) (m1 : (a, o1) ∈ news) (m2 : (b, o2) ∈ news) (m3 : (c, o3) ∈ news) (m4 : (d, o4) ∈ news) : News h₀ L h [(a, o1), (b, o2), (c, o3), (d, o4)] := by
  intro p hp
  rcases List.mem_cons.mp hp with rfl | hp
  · exact N _ m1
  rcases List.mem_cons.mp hp with rfl | hp
  · exact N _ m2
  rcases List.mem_cons.mp hp with rfl | hp
  · exact N _ m3
  rcases List.mem_cons.mp hp with rfl | hp
  · exact N _ m4
  · cases hp
theorem keep1 {h₀ h : Heap} {L : Addr} {news l : Led} {a : Addr} {o : Obj} (N : News h₀ L h news) (M : News h₀ L h l) (m1 : (a, o) ∈ news) : News h₀ L h ((a, o) :: l) := fun p hp => by
  rcases List.mem_cons.mp hp with rfl | hp
  · exact N _ m1
  · exact M p hp
def DeedsU (c : Int) (news' : Int → Int → Int → Tok → Tok → Tok → Led) : Value → Led → Prop := fun v n' => ∃ st sd kk ta tb tc, v = .bool true ∧ PenOk (c + 7) st sd kk ∧ n' = news' st sd kk ta tb tc
-- USE
theorem useDeeds {w : World} {d : Nat} {f : Addr} {vs : List Value} {news : Led} {p : Program} {loose : List Str} {mean : ExcName → Option Value} {mg mb : Str → Option Value} {dp un : Nat} {gd : Option (List Code)} {cn : Str} {cs : Scope} {a : Addr} {ccd : Value} {cl : List (Str × Addr)} {outer : List Env} {A₀ : Around} {base h₀ : Heap} {L : Addr} {m : Str → Option Value} {s : Shared} {Q E : Value → Shared → Prop} {c : Int} {news' : Int → Int → Int → Tok → Tok → Tok → Led} (C : Ctr w d f vs news (DeedsU c news')) (B : Below A₀ base outer h₀) (F : Fr h₀ L s.heap m) (X : (Mine.mk.heap_1 w.params).In h₀) (N : News h₀ L s.heap news) (T : Top p loose mean mg mb h₀) (hk : cs.kind = .function) (hd : dp + d < recursionLimit) (hu : un + 8 * d < cLine)
    (h : ∀ st sd kk ta tb tc h' tk', PenOk (c + 7) st sd kk → Fr h₀ L h' m → News h₀ L h' (news' st sd kk ta tb tc) → Q (.bool true) { s with heap := h', toks := tk' }) : wpAny (model PySem.Challenge.rw_pq0794_01.row.prog w) (ktrTop dp un gd cn cs L a ccd cl outer) (call (.ref f) vs) Q E s :=
  use C B F X N T hk hd hu (by rintro v n' h' tk' ⟨st, sd, kk, ta, tb, tc, rfl, q3, rfl⟩ F' N'; exact h st sd kk ta tb tc h' tk' q3 F' N')
-- END USE
section
variable {prog : Program} {w : World} {A₀ A : Around} {s : Shared} {base h₀ : Heap} {L : Addr} {m : Str → Option Value} {news rest : Led} {K : Frag} {p : Program} {loose : List Str} {mean : ExcName → Option Value} {mg mb : Str → Option Value}
/-- a def entered with a part of the ledger: the rest stands in its ground -/
theorem code_fr {env : Env} {outer : List Env} {R : Result → Shared → Prop} {name qual : Str} {params : Arguments} {body : List Stmt} {scope : Scope} {dV kV doc pm cdv ct oc : Value} {an od : Option Addr} {osl : Array (Option Value)} {f : Addr} {args : Args} {binds : List (Str × Value)}
    (B : Below A₀ base outer h₀) (F : Fr h₀ L s.heap m) (X₀ : K.In h₀) (N : News h₀ L s.heap news) (Nr : News h₀ L s.heap rest) (hdis : ∀ p ∈ rest, ∀ q ∈ news, p.1 ≠ q.1) (T : Top p loose mean mg mb h₀) (hA : A.frames = some (env :: outer)) (hf : env.frame = some L) (hke : env.scope.kind = .function)
    (ho : K.lookup f = some ⟨oc, od, .func (fnOf name qual params body scope dV kV doc pm an cdv ct), osl⟩) (hcd : codeIn K cdv qual = true) (hroom : A.depth < recursionLimit)
    (hbind : BindsTo s (fnOf name qual params body scope dV kV doc pm an cdv ct) args binds) (hloc : ∀ y ∈ binds, scope.names.lookup y.1 = some .local)
    (h : ∀ g L' h₁, Fr h₀ L g m → Fr g L' h₁ (fun y => binds.reverse.lookup y) → News g L' h₁ news → Below A base (env :: outer) g → K.In g → Top p loose mean mg mb g → (∀ p ∈ rest, g.get? p.1 = some p.2) →
      wpAny (model prog w) (A.deeper (envOf qual scope L' f cdv)) (execs body (envOf qual scope L' f cdv))
        (fun fl s' => LeaveK h₀ L m g R (match fl with | .ret v => v | _ => .none) s')
        (fun e s' => wpAny (model prog w) (A.deeper (envOf qual scope L' f cdv)) (leaving (envOf qual scope L' f cdv) e) (fun _ s'' => R (.error e) s'') (fun e' s'' => R (.error e') s'') s')
        { s with heap := h₁, toks := s.toks + binds.length })
    (hco : scope.isCoroutine = false) (hgen : scope.isGenerator = false) (hk : scope.kind = .function)
    (hcell : ∀ x ∈ scope.names, x.2 ≠ .cell) : codeAny (model prog w) A (.call (.ref f) args) R s := by
  obtain ⟨FG, BG, st, lv⟩ := groundX (R := R) B F N hA hf hke
  have X := X₀.keeps F.keep
  refine codeAny_call_def (fd := fnOf name qual params body scope dV kV doc pm an cdv ct) (body := body) (binds := binds) hroom (X _ _ ho) rfl (T.nolimit.keeps F.keep) (codeRec_of X hcd) rfl hbind hcell hloc (fun h₁ hns hk₁ => ?_) hco hgen hk
  exact wpAny_mono (h _ s.heap.objs.size h₁ FG ⟨hns, fun b o e => hk₁ b o (of_hideAll _ e), Nat.le_of_eq (hideAll_size _ _)⟩
    (fun p hp => ⟨hk₁ _ _ (N p hp).1, Nat.ne_of_lt (Heap.lt_size (N p hp).1), hideAll_none _ (List.mem_map_of_mem hp)⟩) BG (X₀.keeps st) (T.keeps st) (fun p hp => hideAll_get _ (Nr p hp).1 (fun q => by
      obtain ⟨r, hr, e⟩ := List.mem_map.mp q
      exact hdis p hp r hr e.symm))) (fun fl s' hl => lv _ _ hl) fun _ _ y => y
theorem news_rest {g h h' : Heap} {L' : Addr} {m' : Str → Option Value} {q : Addr × Obj} (N : News h₀ L h rest) (hg : ∀ p ∈ rest, g.get? p.1 = some p.2) (F : Fr g L' h' m') (N1 : News h₀ L h' [q]) : News h₀ L h' (q :: rest) := fun p hp => by
  rcases List.mem_cons.mp hp with rfl | hp
  · exact N1 _ (.head _)
  · exact ⟨F.keep _ _ (hg p hp), (N p hp).2⟩
end
-- HERE
theorem deeds_c {w : World} {pa : Addr} {rest : Led} {size first second carry : Int} {tz t1 t2 t3 : Tok} {st sd kk c : Int} {ta tb tc : Tok} (h0 : 1 ≤ size) (h1 : size ≤ 64) (c0 : 0 ≤ carry) (c1 : carry ≤ 1) (hp : PenOk c st sd kk) (hc : c ≤ 900) (hr : ∀ p ∈ rest, p.1 ≠ pa) :
    Ctr w 20 314 [.ref pa, .int size tz, .int first t1, .int second t2, .int carry t3] ((pa, penO st sd kk ta tb tc) :: rest) (DeedsU c (fun st sd kk ta tb tc => (pa, penO st sd kk ta tb tc) :: rest)) := by
  unfold Ctr
  k_fill
  intro p loose mean mg mb dp un gd cn cs a ccd cl outer A₀ base h₀ L m s Q E B F X N T hk hd hu hret
  have W0 : (0 : Int) < 2 ^ size.toNat := kbt_pos _
  have W1 : (2 : Int) ^ size.toNat ≤ 18446744073709551616 := pow_le h1
  have W2 : (1 : Int) < 2 ^ size.toNat := by
    obtain ⟨n, e⟩ : ∃ n, size.toNat = n + 1 := ⟨size.toNat - 1, by omega⟩
    rw [e, Int.pow_succ]
    have := kbt_pos n
    omega
  have X0 := Int.emod_nonneg first (Int.ne_of_gt W0)
  have X1 := Int.emod_lt_of_pos first W0
  have Y0 := Int.emod_nonneg second (Int.ne_of_gt W0)
  have Y1 := Int.emod_lt_of_pos second W0
  have M208 : True := trivial
  have M211 : True := trivial
  have M214 : True := trivial
  have M218 : True := trivial
  have M220 : True := trivial
  have M223 : True := trivial
  have Nr : News h₀ L s.heap rest := ndrop N fun p hp => .tail _ hp
  have N1 : News h₀ L s.heap [(pa, penO st sd kk ta tb tc)] := ndrop N fun p hp => by
    rw [List.mem_singleton.mp hp]; exact .head _
  refine wpAny_call ?_
  k_dflt (refine' code_fr (rest := rest) ?k1 ?k2 ?k3 N1 Nr ?kD ?k5 ?kA ?kF ?kK ?k6 ?k7 ?k8 ?k9 ?kB ?_ ?c2 ?c3 ?c4 ?c5; (case kA => exact rfl); (case kF => exact rfl); (case kK => first | assumption | exact rfl); (case k1 => k_asm); (case k2 => k_asm); (case k3 => k_asm); (case kD => exact fun p hp q hq => by rw [List.mem_singleton.mp hq]; exact hr p hp); (case k5 => k_asm); (case k6 => k_is); (case k7 => k_is); (case k8 => ktr_room); (case k9 => exact BindsTo.of_eq rfl); (case c5 => decide); (case kB => exact locs rfl); (case c2 => exact rfl); (case c3 => exact rfl); (case c4 => exact rfl); k_whole; intro g' L' h' FG' F' N' B' X' T' HG'; (try dsimp only); (try k_fold))
  clear N
  k_steps
  all_goals first
    | (exfalso; (rename _ ≠ _ => hne); exact hne rfl)
    | (exfalso; (rename ¬_ = _ => hne); refine hne ?_; rw [dZ_if, dS_if])
    | (rw [dZ_if, dS_if]
       (rename PenOk _ _ _ _ => hz)
       exact hret _ _ _ _ ⟨_, _, _, _, _, _, decEq_self _, hz, rfl⟩ (by k_asm) (news_rest Nr HG' (by with_reducible assumption) (ndrop (by k_asm) (by kcj_all))))
theorem deeds_u {w : World} {size first second carry : Int} {tz t1 t2 t3 : Tok} {st sd kk c : Int} {ta tb tc : Tok} {pa : Addr} {news : Led} {news' : Int → Int → Int → Tok → Tok → Tok → Led}
    (U : ∀ st' sd' kk' ta' tb' tc', Upd pa (penO st sd kk ta tb tc) (penO st' sd' kk' ta' tb' tc') news (news' st' sd' kk' ta' tb' tc'))
    (h0 : 1 ≤ size) (h1 : size ≤ 64) (c0 : 0 ≤ carry) (c1 : carry ≤ 1) (hp : PenOk c st sd kk) (hc : c ≤ 900) : Ctr w 20 314 [.ref pa, .int size tz, .int first t1, .int second t2, .int carry t3] news (DeedsU c news') := by
  have C := deeds_c (w := w) (first := first) (second := second) (tz := tz) (t1 := t1) (t2 := t2) (t3 := t3) (ta := ta) (tb := tb) (tc := tc) (pa := pa) h0 h1 c0 c1 hp hc (filter_ne (news := news))
  have D := ctr_upd (w := w) (k := 20) (f := 314) (vs := [.ref pa, .int size tz, .int first t1, .int second t2, .int carry t3]) (β := (Int × Int × Int) × (Tok × Tok × Tok)) (o := penO st sd kk ta tb tc) (o' := fun x => penO x.1.1 x.1.2.1 x.1.2.2 x.2.1 x.2.2.1 x.2.2.2) (news' := fun x => news' x.1.1 x.1.2.1 x.1.2.2 x.2.1 x.2.2.1 x.2.2.2) (R := fun v x => v = .bool true ∧ PenOk (c + 7) x.1.1 x.1.2.1 x.1.2.2) (fun x => U _ _ _ _ _ _) ⟨((0, 0, 0), (0, 0, 0))⟩
    (ctr_mono C (by rintro v n' ⟨st', sd', kk', ta', tb', tc', e, q3, e'⟩; exact ⟨((st', sd', kk'), (ta', tb', tc')), ⟨e, q3⟩, e'⟩))
  exact ctr_mono D (by rintro v n' ⟨⟨⟨st', sd', kk'⟩, ta', tb', tc'⟩, ⟨e, q3⟩, e'⟩; exact ⟨st', sd', kk', ta', tb', tc', e, q3, e'⟩)
end Mine
namespace Mine
abbrev excO (C t : Addr) : Obj := { cls := .ref C, data := .fields #[.ref t, .none, .none, .none, .bool false, .none] }
abbrev tupO (vs : List Value) : Obj := { cls := .type "tuple", data := .seq vs.toArray }
section
variable {prog : Program} {w : World} {A : Around} {E : Value → Shared → Prop} {h : Heap} {g : Array GenState} {d : Drawn} {t : Nat} {os : OsState}
variable {nm q : Str} {C N : Addr} {bs bm : List Value} {hdct : Bool} {sn : List Str} {sub : List Value} {ab : Bool} {col : Option Bool} {dd : Option Addr} {k0 k1 k2 k3 k5 : Option Value}
/-- «Exception.__new__» of a class whose tail bears own classes too -/
theorem x_check {M : Model} {rest : List Value} {Q : Unit → Shared → Prop} (hC : h.get? C = some (excClassObj nm q C N bs bm hdct sn sub ab col dd k0 k1 k2 k3 k5 "Exception.__new__")) (hX : bm.contains (.type "Exception") = true)
    (hq : Q () ⟨h, g, d, t, os⟩) : wpAny M A (checkBuiltinCall "Exception.__new__" ⟨.ref C :: rest, []⟩) Q E ⟨h, g, d, t, os⟩ := by
  have F := PySem.F.excBase_Exception
  have hc : (Value.ref C :: bm).contains (.type "Exception") = true := by rw [List.contains_cons, hX, Bool.or_true]
  have hstar := F.noStar
  simp only [checkBuiltinCall, F.newKind, F.newSplit, F.newRow]
  repeat (first | refine wpAny_loadPart_at hC ?_ | (refine wpAny_isSubtype_exc hC ?_; rw [hc]) | refine wpAny_staticBase_exc hC ?_ | refine wpAny_madeBy_exc hC ?_ | simp only [bne_self_eq_false, Bool.false_eq_true, if_false] | wp_step)
  exact hq
theorem x_new {rest : List Value} {R : Result → Shared → Prop} (hC : h.get? C = some (excClassObj nm q C N bs bm hdct sn sub ab col dd k0 k1 k2 k3 k5 "Exception.__new__")) (hX : bm.contains (.type "Exception") = true)
    (hXA : bm.contains (.type "AttributeError") = false) (hXN : bm.contains (.type "NameError") = false) (hrest : rest.length ≤ sizeLine)
    (hq : R (.ok (.ret (.ref (h.objs.size + 1)))) ⟨(h.push (tupO rest)).push (excO C h.objs.size), g, d, t, os⟩) :
    codeAny (model prog w) A (.builtin "Exception.__new__" ⟨.ref C :: rest, []⟩) R ⟨h, g, d, t, os⟩ := by
  have F := PySem.F.excBase_Exception
  have hends := F.ends
  have hcB : (Value.ref C :: bm).contains (.type "Exception") = true := by rw [List.contains_cons, hX, Bool.or_true]
  have hcA : (Value.ref C :: bm).contains (.type "AttributeError") = false := by rw [List.contains_cons, hXA]; rfl
  have hcN : (Value.ref C :: bm).contains (.type "NameError") = false := by rw [List.contains_cons, hXN]; rfl
  refine codeAny_builtinAt F.entry ?_
  unfold Builtin.«BaseException.__new__»
  refine PySem.wpAt_bind ?_
  show PySem.wpAt _ _ _ (stack >>= _) _ _ _
  refine PySem.wpAt_bind (PySem.wpAt_stack fun p below => PySem.wpAt_of_wpAny ?_)
  wp_walk
  refine PySem.wpAt_of_wpAny ?_
  rw [F.owner]
  repeat (first | with_reducible refine wpAny_madeHere_exc F.canon hC ?_ | with_reducible refine wpAny_loadPart_at hC ?_ | (with_reducible refine wpAny_isSubtype_exc hC ?_; first | rw [hcB] | rw [hcA] | rw [hcN]) | wp_step)
  show R _ _
  rw [Heap.size_push]
  exact hq
theorem x_make {rest : List Value} {fI : Addr} {R : Result → Shared → Prop} (hC : h.get? C = some (excClassObj nm q C N bs bm hdct sn sub ab col dd k0 k1 k2 k3 k5 "Exception.__new__")) (hX : bm.contains (.type "Exception") = true)
    (hXA : bm.contains (.type "AttributeError") = false) (hXN : bm.contains (.type "NameError") = false) (hrest : rest.length ≤ sizeLine)
    (hi : Looks (model prog w) h (typeLookup (.ref C) "__init__") (some (.ref fI))) (hb : ∀ self, Looks (model prog w) h (bindSpecial (.ref fI) self) (.ref fI, [self]))
    (hq : codeAny (model prog w) (A.under (.builtin "type.__call__" ⟨.ref C :: rest, []⟩)) (.call (.ref fI) ⟨.ref (h.objs.size + 1) :: rest, []⟩) (InitBack (h.objs.size + 1) R) ⟨(h.push (tupO rest)).push (excO C h.objs.size), g, d, t, os⟩) :
    codeAny (model prog w) A (.call (.ref C) ⟨rest, []⟩) R ⟨h, g, d, t, os⟩ := by
  have F := PySem.F.excBase_Exception
  have f1 := tc_lookup
  have f2 := tc_bind (.ref C)
  have hT : (⟨h, g, d, t, os⟩ : Shared).TypeIs (.ref C) "type" := ⟨_, hC, rfl⟩
  refine codeAny_of_tree ?_
  show wpAny _ _ (callAny (.ref C) _) _ _ _
  repeat (any_goals (first | assumption | with_reducible refine wpAny_loadPart_at hC ?_ | wp_step))
  refine ⟨rfl, ?_⟩
  refine codeAny_call_builtin_at (Code.quiet_builtin _ (by decide +kernel)) entry_typeCall (wpAny_check_type_call_sub hC ?_)
  repeat (first | with_reducible refine wpAny_loadPart_at hC ?_ | with_reducible refine wpAny_madeBy_exc hC ?_ | wp_step)
  refine codeAny_call_builtin_code (Code.quiet_builtin _ F.quiet) (x_check (rest := rest) hC hX ?_)
  refine x_new (rest := rest) hC hX hXA hXN hrest ?_
  show wpAny _ _ _ _ _ _
  have k : ∀ b o, h.get? b = some o → ((h.push (tupO rest)).push (excO C h.objs.size)).get? b = some o := fun b o e => Heap.get?_push_of_some _ (Heap.get?_push_of_some _ e)
  have hC₁ := k _ _ hC
  have hget : ((h.push (tupO rest)).push (excO C h.objs.size)).get? (h.objs.size + 1) = some { cls := .ref C, data := .fields #[.ref h.objs.size, .none, .none, .none, .bool false, .none] } := by heap_get
  have hcC : (Value.ref C :: bm).contains (.ref C) = true := by simp
  unfold isInstance
  repeat (first | with_reducible refine wpAny_loadPart_at hget ?_ | (with_reducible refine wpAny_isSubtype_exc hC₁ ?_; rw [hcC]) | wp_step)
  show wpAny _ _ (typeLookup (.ref C) _) _ _ _
  refine (hi.keeps k).at ?_
  refine wpAny_holding (wpAny_bind (((hb (.ref (h.objs.size + 1))).keeps k).at ?_))
  refine wpAny_bind (wpAny_call (codeAny_mono hq fun r s' z => ?_))
  rcases r with e | (v | _ | _ | _) <;> first | exact z | exact z.elim | skip
  obtain ⟨rfl, z⟩ := z
  exact wpAny_pure (wpAny_pure z)
end
end Mine
namespace Mine
section
variable {M : Model} {A : Around} {E : Value → Shared → Prop} {s' : Shared} {base g g₂ : Heap} {outer : List Env} {env : Env} {L e t : Addr} {m : Str → Option Value} {Q : Unit → Shared → Prop} {news news' : Led}
theorem raisedS_sub {G : Heap} {l : List Env} {cls : Value} {vs : List Value} {h : Heap} (R : RaisedS base G l e cls t vs news h) (hs : ∀ p ∈ news', p ∈ news) : RaisedS base G l e cls t vs news' h := by
  obtain ⟨⟨B, hB, hBG, hl, hfl, hnew⟩, htup⟩ := R
  exact ⟨⟨B, hB, hBG, fun q hq => hl q (hs q hq), hfl, hnew⟩, htup⟩
theorem mem_frames {b : Addr} (hf : env.frame = some L) (hm : b ∈ (env :: outer).filterMap (·.frame)) : b = L ∨ b ∈ outer.filterMap (·.frame) := by
  obtain ⟨env', he, hf'⟩ := List.mem_filterMap.mp hm
  rcases List.mem_cons.mp he with rfl | he
  · exact .inl (Option.some.inj (hf'.symm.trans hf))
  · exact .inr (List.mem_filterMap.mpr ⟨env', he, hf'⟩)
theorem hidden_none {h : Heap} {b : Addr} (as : List Addr) (e : h.get? b = none) : (hideAll h as).get? b = none := by
  cases q : (hideAll h as).get? b with
  | none => rfl
  | some o => rw [of_hideAll _ q] at e; cases e
/-- an exception that was made in this frame, and stands on the ledger, leaves the frame -/
theorem leave_made {C : Value} {oe : Obj} {fs : Array Value} {vs : List Value} (K : Below A base outer g) (F : Fr g L s'.heap m) (N : News g L s'.heap ((e, oe) :: (t, tupO vs) :: news))
    (hc : oe.cls = C) (hd : oe.data = .fields fs) (h0 : fs[0]? = some (.ref t)) (h1 : fs[1]? = some .none) (he : ∀ p ∈ news, p.1 ≠ e) (ht : ∀ p ∈ news, p.1 ≠ t) (hf : env.frame = some L) (hk : env.scope.kind = .function)
    (hQ : ∀ h', RaisedS base g outer e C t vs news h' → g.UpToSlots h' → Q () { s' with heap := h' }) : wpAny M (A.deeper env) (leaving env (.ref e)) Q E s' := by
  have K' := pushX K F hf hk
  obtain ⟨ge, eL, e0⟩ := N (e, oe) (.head _)
  obtain ⟨gt, tL, t0⟩ := N (t, tupO vs) (.tail _ (.head _))
  have hid : ∀ b, b ∈ (e :: t :: (env :: outer).filterMap (·.frame)) → b = e ∨ b = t ∨ b ∈ (env :: outer).filterMap (·.frame) := fun b hb => by
    rcases List.mem_cons.mp hb with h | h
    · exact .inl h
    · rcases List.mem_cons.mp h with h | h
      · exact .inr (.inl h)
      · exact .inr (.inr h)
  have hin : ∀ env' ∈ (env :: outer), ∀ b, env'.frame = some b → b ∈ (e :: t :: (env :: outer).filterMap (·.frame)) := fun env' he' b hb => .tail _ (.tail _ (List.mem_filterMap.mpr ⟨env', he', hb⟩))
  have st : base.StaysIn (hideAll s'.heap (e :: t :: (env :: outer).filterMap (·.frame))) := fun b o q => hideAll_get _ (K'.stays b o q) fun hm => by
    rcases hid b hm with rfl | rfl | hm
    · rw [fresh_of_stays K.stays e0] at q; cases q
    · rw [fresh_of_stays K.stays t0] at q; cases q
    · rw [(K'.frames.mem hm).1] at q; cases q
  have sg : ∀ b o, g.get? b = some o → b ∉ outer.filterMap (·.frame) → (hideAll s'.heap (e :: t :: (env :: outer).filterMap (·.frame))).get? b = some o := fun b o q nm => hideAll_get _ (F.keep b o q) fun hm => by
    rcases hid b hm with rfl | rfl | hm
    · rw [e0] at q; cases q
    · rw [t0] at q; cases q
    · rcases mem_frames hf hm with z | z
      · rw [z, kts_self F] at q
        cases q
      · exact nm z
  have hl : ∀ q ∈ news, (hideAll s'.heap (e :: t :: (env :: outer).filterMap (·.frame))).get? q.1 = some q.2 ∧ g.get? q.1 = none ∧ base.get? q.1 = none := fun q hq => by
    have z := N q (.tail _ (.tail _ hq))
    refine ⟨hideAll_get _ z.1 fun hm => ?_, z.2.2, fresh_of_stays K.stays z.2.2⟩
    rcases hid q.1 hm with h | h | hm
    · exact he q hq h
    · exact ht q hq h
    · rcases mem_frames hf hm with h | h
      · exact z.2.1 h
      · obtain ⟨o, ho, _⟩ := (K.frames.mem h).2
        rw [z.2.2] at ho; cases ho
  subst hc
  refine wpAny_leaving_firstW (a0 := .ref t) K'.stack (funFrames_hide K'.frames hin) hf ge (fun b o q => of_hideAll _ q) (hideAll_none _ (.head _)) hd h1 h0 fun h' hL => ?_
  obtain ⟨k1, ⟨_, _, k2⟩, k3, k4⟩ := hL
  exact hQ h' ⟨⟨_, st, sg, hl, ⟨k1, hideAll_none _ (.head _), k2, k3⟩, hideAll_none _ (.tail _ (.head _))⟩, Heap.TupAt.of_slots ⟨_, _, gt, rfl, rfl⟩ k4⟩ ((Heap.UpToSlots.of_keeps F.keep).trans k4)
/-- an exception in flight leaves one more frame -/
theorem leave_more {cls : Value} {vs : List Value} (K : Below A base outer g) (F : Fr g L g₂ m) (R : RaisedS base g₂ (env :: outer) e cls t vs news s'.heap) (hsm : g₂.UpToSlots s'.heap) (hf : env.frame = some L) (hn : ∀ p ∈ news, g.get? p.1 = none)
    (hQ : ∀ h', RaisedS base g outer e cls t vs news h' → g.UpToSlots h' → Q () { s' with heap := h' }) : wpAny M (A.deeper env) (leaving env (.ref e)) Q E s' := by
  obtain ⟨⟨B, hB, hBG, hl, hfl, hnew⟩, htup⟩ := R
  exact wpAny_leaves_onW (Around.frames_deeper K.stack) hf hfl fun h' x1 x2 =>
    hQ h' ⟨⟨B, hB, fun b o q nm => hBG b o (F.keep b o q) (fun hm => by
      rcases mem_frames hf hm with z | z
      · rw [z, kts_self F] at q
        cases q
      · exact nm z), fun q hq => ⟨(hl q hq).1, hn q hq, (hl q hq).2.2⟩, x1, hnew⟩, htup.of_slots x2⟩ ((Heap.UpToSlots.of_keeps F.keep).trans (hsm.trans x2))
end
/-- the raise of a value that an expression makes -/
def RaiseBack (C : Addr) (CO : Obj) (E : Value → Shared → Prop) (v : Value) (s : Shared) : Prop := ∃ a od fs sl, v = .ref a ∧ s.heap.get? C = some CO ∧ s.heap.get? a = some ⟨.ref C, od, .fields fs, sl⟩ ∧ fs[1]? = some .none ∧ E (.ref a) s
theorem raise_val {prog : Program} {w : World} {A : Around} {E : Value → Shared → Prop} {s : Shared} {env : Env} {e : PySem.Expr} {pos : Pos} {Q : Flow → Shared → Prop} {nm q : Str} {C N : Addr} {bs bm : List Value} {hdct : Bool} {sn : List Str} {sub : List Value} {ab : Bool} {col : Option Bool} {dd : Option Addr} {k0 k1 k2 k3 k5 : Option Value} {newId : String}
    (hbase : bm.contains (.type "BaseException") = true) (hh : A.handled = none) (h : wpAny (model prog w) A (eval e env) (RaiseBack C (excClassObj nm q C N bs bm hdct sn sub ab col dd k0 k1 k2 k3 k5 newId) E) E s) :
    wpAny (model prog w) A (exec (.Raise (some e) none pos) env) Q E s := by
  have hcB : (Value.ref C :: bm).contains (.type "BaseException") = true := by rw [List.contains_cons, hbase, Bool.or_true]
  rw [arm_exec_Raise]
  simp only [evalOpt, Option.map]
  refine wpAny_bind (wpAny_standAt ?_)
  unfold raiseStmt
  refine wpAny_bind (wpAny_bind (wpAny_mono h (fun v s₁ h₁ => wpAny_bind (wpAny_standAt (wpAny_pure ?_))) fun _ _ x => x))
  obtain ⟨a, od, fs, sl, rfl, hC, he, h1, hE⟩ := h₁
  obtain ⟨hp, g, d, tk, os⟩ := s₁
  repeat (first | with_reducible refine wpAny_loadPart_at he ?_ | with_reducible refine wpAny_loadPart_at hC ?_ | (with_reducible refine wpAny_isSubtype_exc hC ?_; rw [hcB]) | rw [h1] | wp_step)
  exact wpAny_raiseNew_none hh hE
end Mine
namespace Mine
theorem mach_call {w : World} {A : Around} {E : Value → Shared → Prop} {s : Shared} {h₀ : Heap} {L : Addr} {m : Str → Option Value} {news : Led} {rest : List Value} {Q : Value → Shared → Prop}
    (F : Fr h₀ L s.heap m) (N : News h₀ L s.heap news) (X₀ : (Mine.mk.heap_1 w.params).In h₀) (hl : rest.length ≤ sizeLine)
    (h : ∀ x tp h', Fr h₀ L h' m → News h₀ L h' ((x, excO 59 tp) :: (tp, tupO rest) :: news) → (∀ p ∈ news, p.1 < tp) → @LT.lt Nat _ tp x →
      codeAny (model PySem.Challenge.rw_pq0794_01.row.prog w) (A.under (.builtin "type.__call__" ⟨.ref 59 :: rest, []⟩)) (.call (.ref 36) ⟨.ref x :: rest, []⟩) (InitBack x fun r s' => match r with | .ok (.ret v) => Q v s' | .ok _ => False | .error e => E e s') { s with heap := h' }) :
    wpAny (model PySem.Challenge.rw_pq0794_01.row.prog w) A (call (.ref 59) rest) Q E s := by
  revert X₀
  k_fill
  intro X₀
  obtain ⟨hp, g, d, t, os⟩ := s
  have X := X₀.keeps F.keep
  refine wpAny_call (x_make (C := 59) (fI := 36) (X _ _ rfl) (by decide +kernel) (by decide +kernel) (by decide +kernel) hl (looks_findIn X (by k_is)) (fun self => bind_fn X self (by k_is)) (h _ hp.objs.size _ ((F.push _).push _) ?_ (fun p hp => Heap.lt_size (N p hp).1) (Nat.lt_succ_self _)))
  have := (N.push F (tupO rest)).push (F.push _) (excO 59 hp.objs.size)
  rwa [Heap.size_push] at this
theorem x_check_init {M : Model} {A : Around} {E : Value → Shared → Prop} {h : Heap} {g : Array GenState} {d : Drawn} {t : Nat} {os : OsState} {nm q : Str} {C N : Addr} {bs bm : List Value} {hdct : Bool} {sn : List Str} {sub : List Value} {ab : Bool} {col : Option Bool} {dd : Option Addr} {k0 k1 k2 k3 k5 : Option Value} {newId : String} {e : Addr} {oe : Obj} {rest : List Value} {Q : Unit → Shared → Prop}
    (hC : h.get? C = some (excClassObj nm q C N bs bm hdct sn sub ab col dd k0 k1 k2 k3 k5 newId)) (hX : bm.contains (.type "Exception") = true) (he : h.get? e = some oe) (hcls : oe.cls = .ref C) (hq : Q () ⟨h, g, d, t, os⟩) :
    wpAny M A (checkBuiltinCall "Exception.__init__" ⟨.ref e :: rest, []⟩) Q E ⟨h, g, d, t, os⟩ := by
  have F := PySem.F.excBase_Exception
  have hcB : (Value.ref C :: bm).contains (.type "Exception") = true := by rw [List.contains_cons, hX, Bool.or_true]
  have hshort := F.noStar
  simp only [checkBuiltinCall, F.initKind, F.initSplit, F.initRow]
  repeat (first | (with_reducible refine wpAny_loadPart_at he ?_; rw [hcls]) | with_reducible refine wpAny_loadPart_at hC ?_ | (with_reducible refine wpAny_isSubtype_exc hC ?_; rw [hcB]) | wp_step)
  refine wpAny_onRaise ?_
  rw [show ∀ (a b : String) (n : Nat), Bind.check ⟨.positional, "*", "Exception", .self, [⟨"args", .varPos, false⟩]⟩ a b n (List.map (fun x => x.fst) ({ pos := Value.ref e :: rest } : Args).kw) = pure () from fun a b n => check_star_args _ _ _ _ _ _]
  exact wpAny_pure hq
theorem ei_run {prog : Program} {w : World} {A : Around} {E : Value → Shared → Prop} {h : Heap} {g : Array GenState} {d : Drawn} {t : Nat} {os : OsState} {x tp C : Addr} {rest : List Value} {Q : PySem.Fin → Shared → Prop}
    (hx : h.get? x = some { cls := .ref C, data := .fields #[.ref tp, .none, .none, .none, .bool false, .none] }) (hl : rest.length ≤ sizeLine)
    (hq : Q (.done (.ret .none)) ⟨(h.push (tupO rest)).update x (Obj.mapFields (·.setIfInBounds 0 (.ref h.objs.size))), g, d, t, os⟩) :
    wpAny (model prog w) A (Builtin.«BaseException.__init__» ⟨.ref x :: rest, []⟩) Q E ⟨h, g, d, t, os⟩ := by
  have hx1 : (h.push (tupO rest)).get? x = some { cls := .ref C, data := .fields #[.ref tp, .none, .none, .none, .bool false, .none] } := Heap.get?_push_of_some _ hx
  wp_walk
  exact hq
theorem exc_init {w : World} {A : Around} {E : Value → Shared → Prop} {s : Shared} {h₀ : Heap} {L x tp : Addr} {m : Str → Option Value} {news : Led} {news' : Addr → Led} {rest : List Value} {Q : Value → Shared → Prop}
    (F : Fr h₀ L s.heap m) (N : News h₀ L s.heap news) (X₀ : (Mine.mk.heap_1 w.params).In h₀) (U : ∀ tp2, Upd x (excO 59 tp) (excO 59 tp2) news (news' tp2)) (hl : rest.length ≤ sizeLine)
    (h : ∀ tp2 h', Fr h₀ L h' m → News h₀ L h' ((tp2, tupO rest) :: news' tp2) → (∀ p ∈ news, p.1 < tp2) → Q .none { s with heap := h' }) :
    wpAny (model PySem.Challenge.rw_pq0794_01.row.prog w) A (call (.builtin "Exception.__init__") (.ref x :: rest)) Q E s := by
  have FF := PySem.F.excBase_Exception
  obtain ⟨hp, g, d, t, os⟩ := s
  have X := X₀.keeps F.keep
  obtain ⟨pre, post, e1, e2, a1, a2⟩ := (U hp.objs.size).split
  have hx : hp.get? x = some { cls := .ref 59, data := .fields #[.ref tp, .none, .none, .none, .bool false, .none] } := (N _ (by rw [e1]; exact List.mem_append.mpr (.inr (.head _)))).1
  have hlt : ∀ p ∈ news, p.1 < hp.objs.size := fun p h => Heap.lt_size (N p h).1
  have N1 := News.push F N (tupO rest)
  have F1 := F.push (tupO rest)
  have hC := X 59 _ rfl
  refine wpAny_call (codeAny_call_builtin FF.init.plain FF.initEntry (x_check_init hC (by decide +kernel) hx rfl ?_))
  have hx1 : (hp.push (tupO rest)).get? x = some { cls := .ref 59, data := .fields #[.ref tp, .none, .none, .none, .bool false, .none] } := Heap.get?_push_of_some _ hx
  refine ei_run hx hl ?_
  obtain ⟨U1, U2⟩ := news_upd (pre := (hp.objs.size, tupO rest) :: pre) (post := post) (f := Obj.mapFields (·.setIfInBounds 0 (.ref hp.objs.size))) (o' := excO 59 hp.objs.size) F1 (by rw [e1] at N1; exact N1) (fun p hm => by
    rcases List.mem_cons.mp hm with rfl | hm
    · exact Ne.symm (Nat.ne_of_lt (Heap.lt_size hx))
    · exact a1 p hm) a2 rfl rfl
  refine h hp.objs.size _ U1 ?_ hlt
  rw [e2]
  exact U2
end Mine
namespace Mine
section
open Builtin Builtin.ObjectAttr Builtin.Getset_descriptor
theorem x_put {prog : Program} {w : World} {A : Around} {E : Value → Shared → Prop} {s : Shared} {h₀ : Heap} {L dx : Addr} {m : Str → Option Value} {pre post : Led} {od od' : Obj} {name : Str} {tk : Tok} {v : Value} {es : List DictEntry} {n : Nat} {Q : PySem.Fin → Shared → Prop}
    (F : Fr h₀ L s.heap m) (N : News h₀ L s.heap (pre ++ (dx, od) :: post)) (h1 : ∀ p ∈ pre, p.1 ≠ dx) (h2 : ∀ p ∈ post, p.1 ≠ dx) (hl : (lookIn name od).isSome = true)
    (e : Obj.putName name (PyData.keyHash w.params name) (.str name s.toks) v od = od') (e' : od'.data = .dict es.toArray n) (hz : es.length ≤ 1000)
    (h : ∀ h', Fr h₀ L h' m → News h₀ L h' (pre ++ (dx, od') :: post) → Q (.done (.ret .none)) { s with heap := h', toks := s.toks + 1 }) :
    wpAny (model prog w) A (storeInDict dx (.str name tk) name v) Q E s := by
  obtain ⟨U1, U2⟩ := news_upd (f := Obj.putName name (PyData.keyHash w.params name) (.str name s.toks) v) F N h1 h2 e (by obtain ⟨_, _, dd, _⟩ := od'; cases e'; rfl)
  have D := (N (dx, od) (by simp)).1
  have D' := (U2 (dx, od') (by simp)).1
  unfold storeInDict newKeyGuard
  refine wpAny_bind (wpAny_pure (wpAny_bind ?_))
  unfold nsSet
  refine wpAny_bind (wpAny_bind (wpAny_askSetting (wpAny_pure (wpAny_bind (wpAny_mkText (wpAny_bind (wpAny_loadPart D ?_)))))))
  unfold lookIn at hl
  split at hl
  · rename_i es₀ n₀ q
    rw [q]
    dsimp only
    have c : (!es₀.any (·.key.isStr name) && es₀.any (·.refKey)) = false := by
      rw [← Array.any_toList, ← Array.any_toList]
      split at hl
      · rename_i en he
        rw [List.any_eq_true.mpr ⟨en, List.mem_of_find?_eq_some he, List.find?_some he⟩]; rfl
      · split at hl
        · cases hl
        · rename_i z; rw [Bool.not_eq_true] at z; rw [z, Bool.and_false]
    rw [aRefKeyMayBeTheName_at, c]
    refine wpAny_updatePart D ?_
    refine wpAny_bind (wpAny_lookBehind D' (by rw [e']; exact pastItsLine_dict (by rw [List.size_toArray, sizeLine_eq]; omega)) ?_)
    exact wpAny_pure (h _ U1 U2)
  · cases hl
theorem x_open {w : World} {A : Around} {E : Value → Shared → Prop} {s : Shared} {x : Addr} {ox : Obj} {od : Option Obj} {name : Str} {v : Value} {Q : Unit → Shared → Prop} (X : (Mine.mk.heap_1 w.params).In s.heap) (I : InstAt s.heap x ox 59 od)
    (hn : findIn (Mine.mk.heap_1 w.params) (.ref 59) name = some none)
    (h : wpAny (model PySem.Challenge.rw_pq0794_01.row.prog w) A.in1 (storeInOwnDict (.ref x) (.ref 59) (.str name s.toks) name v false) (fun fin s' => fin = .done (.ret .none) ∧ Q () s') (fun _ _ => False) { s with toks := s.toks + 1 }) :
    wpAny (model PySem.Challenge.rw_pq0794_01.row.prog w) A (setAttr (.ref x) name v) Q E s := by
  revert X
  k_fill
  intro X
  have SF := PySem.F.store_Exception
  have S0 := PySem.F.store_object
  refine set_plain X I (by k_is) ?_
  have sub : Looks (model PySem.Challenge.rw_pq0794_01.row.prog w) s.heap (isInstance (.ref x) (.type "object")) true := I.type.andThen (looks_mroIn X (by k_is))
  refine codeAny_call_builtin S0.slot.plain S0.entry (@check_slot _ _ _ { s with toks := s.toks + 1 } "object.__setattr__" "object" "__setattr__" (.ref x) [.str name s.toks, v] [] _ S0.kind S0.split sub (S0.args (.ref x) (.str name s.toks) v) ?_)
  have hm : Looks (model PySem.Challenge.rw_pq0794_01.row.prog w) s.heap (mroOf (.ref 59)) [.ref 59, .ref 46, .type "Exception", .type "BaseException", .type "object"] := (looks_clsIn X (by k_is)).andThen .now
  rw [osa_eq, refuse_eq]
  refine wpAny_bind (wpAny_bind (I.type _ _ _ _ (fun _ _ e => e) (wpAny_bind (hm _ _ _ _ (fun _ _ e => e) ?_))))
  rw [refuseLoop_ref, refuseLoop_ref, SF.passes]
  refine wpAny_pure (wpAny_bind (I.type _ _ _ _ (fun _ _ e => e) (wpAny_bind (looks_findIn X hn _ _ _ _ (fun _ _ e => e) (wpAny_bind ?_)))))
  refine wpAny_pure ?_
  refine wpAny_mono h (fun fin s' z => ?_) (fun _ _ z => z.elim)
  obtain ⟨rfl, z⟩ := z
  exact z
theorem x_set0 {w : World} {A : Around} {E : Value → Shared → Prop} {s : Shared} {h₀ : Heap} {L x : Addr} {m : Str → Option Value} {news : Led} {news' : Addr → Led} {name : Str} {v : Value} {fs : Array Value} {Q : Unit → Shared → Prop}
    (F : Fr h₀ L s.heap m) (N : News h₀ L s.heap news) (X₀ : (Mine.mk.heap_1 w.params).In h₀) (U : ∀ D, Upd x { cls := .ref 59, data := .fields fs } { cls := .ref 59, dict := some D, data := .fields fs } news (news' D)) (hn : findIn (Mine.mk.heap_1 w.params) (.ref 59) name = some none)
    (e : ∀ tk, Obj.putName name (PyData.keyHash w.params name) (.str name tk) v emptyDict = dictOf [⟨PyData.keyHash w.params name, .str name tk, v⟩] 1)
    (h : ∀ D h' tk, Fr h₀ L h' m → News h₀ L h' ((D, dictOf [⟨PyData.keyHash w.params name, .str name tk, v⟩] 1) :: news' D) → (∀ p ∈ news, p.1 < D) → Q () { s with heap := h', toks := s.toks + 2 }) :
    wpAny (model PySem.Challenge.rw_pq0794_01.row.prog w) A (setAttr (.ref x) name v) Q E s := by
  obtain ⟨hp, g, d, t, os⟩ := s
  have X := X₀.keeps F.keep
  obtain ⟨pre, post, e1, e2, a1, a2⟩ := (U hp.objs.size).split
  have hx : hp.get? x = some { cls := .ref 59, data := .fields fs } := (N _ (by rw [e1]; exact List.mem_append.mpr (.inr (.head _)))).1
  have hlt : ∀ p ∈ news, p.1 < hp.objs.size := fun p h => Heap.lt_size (N p h).1
  have N1 := News.push F N emptyDict
  have F1 := F.push emptyDict
  refine x_open (od := none) X ⟨hx, rfl, rfl, trivial⟩ hn ?_
  have hC := X 59 _ rfl
  have hx1 : (hp.push emptyDict).get? x = some { cls := .ref 59, data := .fields fs } := Heap.get?_push_of_some _ hx
  obtain ⟨U1, U2⟩ := news_upd (pre := (hp.objs.size, emptyDict) :: pre) (post := post) (f := fun o => { o with dict := some hp.objs.size }) (o' := { cls := .ref 59, dict := some hp.objs.size, data := .fields fs }) F1 (by rw [e1] at N1; exact N1) (fun p hm => by
    rcases List.mem_cons.mp hm with rfl | hm
    · exact Ne.symm (Nat.ne_of_lt (Heap.lt_size hx))
    · exact a1 p hm) a2 rfl rfl
  unfold storeInOwnDict ownStreamTells
  refine wpAny_bind (wpAny_pure ?_)
  show wpAny _ _ (ownDictForStores (.ref x) >>= _) _ _ _
  refine wpAny_bind ?_
  show wpAny _ _ (instanceDict x true) _ _ _
  unfold instanceDict classData
  refine wpAny_bind (wpAny_loadPart hx (wpAny_bind (wpAny_bind (wpAny_loadPart hC ?_))))
  refine wpAny_pure ?_
  show wpAny _ _ (alloc { cls := .type "dict", data := .dict #[] } >>= fun d => PySem.update x (fun o => { o with dict := some d }) >>= fun _ => pure (some d)) _ _ _
  refine wpAny_bind (wpAny_alloc' (wpAny_bind (wpAny_update' hx1 (wpAny_pure ?_))))
  show wpAny _ _ (storeInDict hp.objs.size (.str name t) name v) _ _ _
  refine x_put (s := ⟨(hp.push emptyDict).update x (fun o => { o with dict := some hp.objs.size }), g, d, t + 1, os⟩) (pre := []) (post := pre ++ (x, { cls := .ref 59, dict := some hp.objs.size, data := .fields fs }) :: post) U1 U2 (fun p h => by cases h) (fun p hm => ?_) rfl (e _) rfl (Nat.le_of_ble_eq_true rfl) (fun h' F' N' => ⟨rfl, h hp.objs.size h' _ F' (by rw [e2]; exact N') hlt⟩)
  rcases List.mem_append.mp hm with hm | hm
  · exact Nat.ne_of_lt (hlt p (by rw [e1]; exact List.mem_append.mpr (.inl hm)))
  · rcases List.mem_cons.mp hm with rfl | hm
    · exact Nat.ne_of_lt (Heap.lt_size hx)
    · exact Nat.ne_of_lt (hlt p (by rw [e1]; exact List.mem_append.mpr (.inr (.tail _ hm))))
theorem x_set1 {w : World} {A : Around} {E : Value → Shared → Prop} {s : Shared} {h₀ : Heap} {L x dx : Addr} {m : Str → Option Value} {news : Led} {news' : Tok → Led} {name : Str} {v : Value} {fs : Array Value} {es : List DictEntry} {n : Nat} {Q : Unit → Shared → Prop}
    (F : Fr h₀ L s.heap m) (N : News h₀ L s.heap news) (X₀ : (Mine.mk.heap_1 w.params).In h₀) (hx : (x, ({ cls := .ref 59, dict := some dx, data := .fields fs } : Obj)) ∈ news) (U : ∀ tk, Upd dx (dictOf es n) (dictOf (es ++ [⟨PyData.keyHash w.params name, .str name tk, v⟩]) (n + 1)) news (news' tk)) (hn : findIn (Mine.mk.heap_1 w.params) (.ref 59) name = some none)
    (hl : (lookIn name (dictOf es n)).isSome = true) (hz : (es.length + 1) ≤ 1000)
    (e : ∀ tk, Obj.putName name (PyData.keyHash w.params name) (.str name tk) v (dictOf es n) = dictOf (es ++ [⟨PyData.keyHash w.params name, .str name tk, v⟩]) (n + 1))
    (h : ∀ h' tk, Fr h₀ L h' m → News h₀ L h' (news' tk) → Q () { s with heap := h', toks := s.toks + 2 }) :
    wpAny (model PySem.Challenge.rw_pq0794_01.row.prog w) A (setAttr (.ref x) name v) Q E s := by
  obtain ⟨hp, g, d, t, os⟩ := s
  have X := X₀.keeps F.keep
  obtain ⟨pre, post, e1, e2, a1, a2⟩ := (U (t + 1)).split
  have hx1 := (N _ hx).1
  have hd1 : hp.get? dx = some (dictOf es n) := (N _ (by rw [e1]; exact List.mem_append.mpr (.inr (.head _)))).1
  refine x_open (od := some (dictOf es n)) X ⟨hx1, rfl, rfl, hd1⟩ hn ?_
  have hC := X 59 _ rfl
  unfold storeInOwnDict ownStreamTells
  refine wpAny_bind (wpAny_pure ?_)
  show wpAny _ _ (ownDictForStores (.ref x) >>= _) _ _ _
  refine wpAny_bind ?_
  show wpAny _ _ (instanceDict x true) _ _ _
  unfold instanceDict classData
  refine wpAny_bind (wpAny_loadPart hx1 (wpAny_bind (wpAny_bind (wpAny_loadPart hC ?_))))
  refine wpAny_pure ?_
  show wpAny _ _ (pure (some dx)) _ _ _
  refine wpAny_pure ?_
  show wpAny _ _ (storeInDict dx (.str name t) name v) _ _ _
  refine x_put (s := ⟨hp, g, d, t + 1, os⟩) (pre := pre) (post := post) F (by rw [e1] at N; exact N) a1 a2 hl (e _) rfl (by rw [List.length_append]; exact hz) (fun h' F' N' => ⟨rfl, h h' (t + 1) F' (by rw [e2]; exact N')⟩)
end
end Mine
namespace Mine
abbrev excD (t D : Addr) : Obj := { cls := .ref 59, dict := some D, data := .fields #[.ref t, .none, .none, .none, .bool false, .none] }
def MachP (news : Led) : Value → Led → Prop := fun v n' => ∃ x tp D vs, v = .ref x ∧ (∀ p ∈ news, p.1 ≠ x) ∧ (∀ p ∈ news, p.1 ≠ tp) ∧ n' = (x, excD tp D) :: (tp, tupO vs) :: news
-- USE
theorem useMach {w : World} {d : Nat} {f : Addr} {vs : List Value} {news : Led} {p : Program} {loose : List Str} {mean : ExcName → Option Value} {mg mb : Str → Option Value} {dp un : Nat} {gd : Option (List Code)} {cn : Str} {cs : Scope} {a : Addr} {ccd : Value} {cl : List (Str × Addr)} {outer : List Env} {A₀ : Around} {base h₀ : Heap} {L : Addr} {m : Str → Option Value} {s : Shared} {Q E : Value → Shared → Prop}  (C : Ctr w d f vs news (MachP news)) (B : Below A₀ base outer h₀) (F : Fr h₀ L s.heap m) (X : (Mine.mk.heap_1 w.params).In h₀) (N : News h₀ L s.heap news) (T : Top p loose mean mg mb h₀) (hk : cs.kind = .function) (hd : dp + d < recursionLimit) (hu : un + 8 * d < cLine)
    (h : ∀ (x tp D : Addr) vs' h' tk', (∀ p ∈ news, p.1 ≠ x) → (∀ p ∈ news, p.1 ≠ tp) → Fr h₀ L h' m → News h₀ L h' ((x, excD tp D) :: (tp, tupO vs') :: news) → Q (.ref x) { s with heap := h', toks := tk' }) : wpAny (model PySem.Challenge.rw_pq0794_01.row.prog w) (ktrTop dp un gd cn cs L a ccd cl outer) (call (.ref f) vs) Q E s :=
  use C B F X N T hk hd hu (by rintro v n' h' tk' ⟨x, tp, D, vs', rfl, q1, q2, rfl⟩ F' N'; exact h x tp D vs' h' tk' q1 q2 F' N')
-- END USE
theorem mach_end {h₀ h : Heap} {L x tp tp2 D : Addr} {m : Str → Option Value} {s : Shared} {Q : Value → Shared → Prop} {tk : Nat} {news : Led} {vs : List Value} {od ot : Obj}
    (hret : ∀ v news' h' tk', MachP news v news' → Fr h₀ L h' m → News h₀ L h' news' → Q v { s with heap := h', toks := tk' })
    (N : News h₀ L h ((D, od) :: (tp2, tupO vs) :: (x, excD tp2 D) :: (tp, ot) :: news)) (F : Fr h₀ L h m) (q1 : ∀ p ∈ news, p.1 ≠ x) (q2 : ∀ p ∈ news, p.1 ≠ tp2) : Q (.ref x) { s with heap := h, toks := tk } := by
  refine hret _ ((x, excD tp2 D) :: (tp2, tupO vs) :: news) h tk ⟨x, tp2, D, vs, rfl, q1, q2, rfl⟩ F (ndrop N fun p hp => ?_)
  rcases List.mem_cons.mp hp with rfl | hp
  · exact .tail _ (.tail _ (.head _))
  · rcases List.mem_cons.mp hp with rfl | hp
    · exact .tail _ (.head _)
    · exact .tail _ (.tail _ (.tail _ (.tail _ hp)))
theorem mach_c {w : World} {nm : Str} {tn : Tok} {news : Led} : Ctr w 3 59 [.str nm tn] news (MachP news) := by
  unfold Ctr
  k_fill
  intro p loose mean mg mb dp un gd cn cs a ccd cl outer A₀ base h₀ L m s Q E B F X N T hk hd hu hret
  refine mach_call F N X (Nat.le_of_ble_eq_true (by rfl)) ?_
  intro x' tp' h' F' N' l1 l2
  have q1 : ∀ p ∈ news, p.1 ≠ x' := fun p hp => Nat.ne_of_lt (Nat.lt_trans (l1 p hp) l2)
  (try k_lt l1); (try k_lt2 l2); (try k_sweep)
  (refine' code_def ?k1 ?k2 ?k3 ?k4 ?k5 ?kA ?kF ?kK ?k6 ?k7 ?k8 ?k9 ?kB ?_ ?c2 ?c3 ?c4 ?c5; (case kA => exact rfl); (case kF => exact rfl); (case kK => first | assumption | exact rfl); (case k1 => k_asm); (case k2 => k_asm); (case k3 => k_asm); (case k4 => k_asm); (case k5 => k_asm); (case k6 => k_is); (case k7 => k_is); (case k8 => ktr_room); (case k9 => first | exact binds_K (by k_in) rfl (by k_is) rfl rfl rfl | exact BindsTo.of_eq rfl); (case c5 => decide); (case kB => exact locs rfl); (case c2 => exact rfl); (case c3 => exact rfl); (case c4 => exact rfl); k_whole; intro g' L' h' FG' F' N' B' X' T'; (try dsimp only); (try k_fold))
  k_steps
  refine' mach_end hret ?N ?F q1 ?q
  case N => k_asm
  case F => k_asm
  case q => assumption
end Mine
namespace Mine
/-- the contract of a call that raises the text's own exception -/
def RCtr (w : World) (d : Nat) (f : Addr) (vs : List Value) (news : Led) : Prop :=
  ∀ (p : Program) (loose : List Str) (mean : ExcName → Option Value) (mg mb : Str → Option Value) (dp un : Nat) (gd : Option (List Code)) (cn : Str) (cs : Scope) (a : Addr) (ccd : Value) (cl : List (Str × Addr)) (outer : List Env) (A₀ : Around) (base h₀ : Heap) (L : Addr) (m : Str → Option Value) (s : Shared) (Q E : Value → Shared → Prop),
    Below A₀ base outer h₀ → Fr h₀ L s.heap m → (Mine.mk.heap_1 w.params).In h₀ → News h₀ L s.heap news → Top p loose mean mg mb h₀ → cs.kind = .function → dp + d < recursionLimit → un + 8 * d < cLine →
    (∀ e t ws G h' tk', Fr h₀ L G m → RaisedS base G (envX cn cs L a ccd cl :: outer) e (.ref 59) t ws news h' → G.UpToSlots h' → E (.ref e) { s with heap := h', toks := tk' }) →
    wpAny (model PySem.Challenge.rw_pq0794_01.row.prog w) (ktrTop dp un gd cn cs L a ccd cl outer) (call (.ref f) vs) Q E s
section
variable {w : World} {d : Nat} {f : Addr} {vs : List Value} {news : Led} {p : Program} {loose : List Str} {mean : ExcName → Option Value} {mg mb : Str → Option Value} {dp un : Nat} {gd : Option (List Code)} {cn : Str} {cs : Scope} {a : Addr} {ccd : Value} {cl : List (Str × Addr)} {outer : List Env} {A₀ : Around} {base h₀ : Heap} {L : Addr} {m : Str → Option Value} {s : Shared} {Q E : Value → Shared → Prop}
theorem useR (C : RCtr w d f vs news) (B : Below A₀ base outer h₀) (F : Fr h₀ L s.heap m) (X : (Mine.mk.heap_1 w.params).In h₀) (N : News h₀ L s.heap news) (T : Top p loose mean mg mb h₀) (hk : cs.kind = .function) (hd : dp + d < recursionLimit) (hu : un + 8 * d < cLine)
    (h : ∀ e t ws G h' tk', Fr h₀ L G m → RaisedS base G (envX cn cs L a ccd cl :: outer) e (.ref 59) t ws news h' → G.UpToSlots h' → E (.ref e) { s with heap := h', toks := tk' }) :
    wpAny (model PySem.Challenge.rw_pq0794_01.row.prog w) (ktrTop dp un gd cn cs L a ccd cl outer) (call (.ref f) vs) Q E s :=
  C p loose mean mg mb dp un gd cn cs a ccd cl outer A₀ base h₀ L m s Q E B F X N T hk hd hu h
end
theorem raise59 {prog : Program} {w : World} {A : Around} {E : Value → Shared → Prop} {s : Shared} {env : Env} {e : PySem.Expr} {pos : Pos} {Q : Flow → Shared → Prop} (hh : A.handled = none)
    (h : wpAny (model prog w) A (eval e env) (RaiseBack 59 (excClassObj "MachineError" "MachineError" 59 58 [.ref 46] [.ref 46, .type "Exception", .type "BaseException", .type "object"] true [] [] false none none (some (.ref 50)) none (some (.str "MachineError" 234)) (some (.str "MachineError" 242)) (some (.bool true)) "Exception.__new__") E) E s) :
    wpAny (model prog w) A (exec (.Raise (some e) none pos) env) Q E s := raise_val (by decide +kernel) hh h
end Mine
namespace Mine
theorem cnumR_c {w : World} {news : Led} {nm : Str} {tn : Tok} (hin : names16.any (· == nm) = false) : RCtr w 6 187 [.str nm tn] news := by
  unfold RCtr
  k_fill
  intro p loose mean mg mb dp un gd cn cs a ccd cl outer A₀ base h₀ L m s Q E B F X N T hk hd hu hret
  refine wpAny_call ?_
  k_dflt ktr_enter
  k_steps
  · refine' leave_made ?K ?F ?N ?c ?d ?z ?o ?q ?q' rfl rfl ?_
    case K => assumption
    case F => k_asm
    case N => k_asm
    case c => rfl
    case d => rfl
    case z => rfl
    case o => rfl
    case q => assumption
    case q' => assumption
    intro h' R' U'
    exact hret _ _ _ _ _ _ (by assumption) (raisedS_sub R' fun p hp => .tail _ hp) U'
end Mine
namespace Mine
def names7 : List Str := [⟨#[99, 102]⟩, ⟨#[112, 102]⟩, ⟨#[97, 102]⟩, ⟨#[122, 102]⟩, ⟨#[115, 102]⟩, ⟨#[111, 102]⟩, ⟨#[100, 102]⟩]
theorem near_of {ns l : List Str} {k n : Int} {d : Str} (hl : (l.all fun nm => !(ns.any (· == nm))) = true) (hn : n = (l.length : Int)) (h0 : 0 ≤ k) (h1 : k < n) : ns.any (· == l.getD k.toNat d) = false := by
  have hlt : k.toNat < l.length := by omega
  have ok := List.all_eq_true.mp hl l[k.toNat] (List.getElem_mem hlt)
  rw [Bool.not_eq_true'] at ok
  rw [List.getD_eq_getElem?_getD, List.getElem?_eq_getElem hlt]
  exact ok
theorem getR_c {w : World} {news : Led} {nm : Str} {tn : Tok} {fa : Addr} (hin : names7.any (· == nm) = false) : RCtr w 6 159 [.ref fa, .str nm tn] news := by
  unfold RCtr
  k_fill
  intro p loose mean mg mb dp un gd cn cs a ccd cl outer A₀ base h₀ L m s Q E B F X N T hk hd hu hret
  unfold names7 at hin
  refine wpAny_call ?_
  k_dflt ktr_enter
  k_steps
  · refine' leave_made ?K ?F ?N ?c ?d ?z ?o ?q ?q' rfl rfl ?_
    case K => assumption
    case F => k_asm
    case N => k_asm
    case c => rfl
    case d => rfl
    case z => rfl
    case o => rfl
    case q => assumption
    case q' => assumption
    intro h' R' U'
    exact hret _ _ _ _ _ _ (by assumption) (raisedS_sub R' fun p hp => .tail _ hp) U'
theorem putR_c {w : World} {news : Led} {nm : Str} {tn : Tok} {fa : Addr} {wv : Int} {tw : Tok} (hin : names7.any (· == nm) = false) : RCtr w 6 166 [.ref fa, .str nm tn, .int wv tw] news := by
  unfold RCtr
  k_fill
  intro p loose mean mg mb dp un gd cn cs a ccd cl outer A₀ base h₀ L m s Q E B F X N T hk hd hu hret
  unfold names7 at hin
  refine wpAny_call ?_
  k_dflt ktr_enter
  k_steps
  · refine' leave_made ?K ?F ?N ?c ?d ?z ?o ?q ?q' rfl rfl ?_
    case K => assumption
    case F => k_asm
    case N => k_asm
    case c => rfl
    case d => rfl
    case z => rfl
    case o => rfl
    case q => assumption
    case q' => assumption
    intro h' R' U'
    exact hret _ _ _ _ _ _ (by assumption) (raisedS_sub R' fun p hp => .tail _ hp) U'
end Mine
namespace Mine
theorem holdsR_c {w : World} {news : Led} {nm : Str} {tn : Tok} {fa : Addr} (hin : names16.any (· == nm) = false) : RCtr w 7 201 [.ref fa, .str nm tn] news := by
  unfold RCtr
  k_fill
  intro p loose mean mg mb dp un gd cn cs a ccd cl outer A₀ base h₀ L m s Q E B F X N T hk hd hu hret
  refine wpAny_call ?_
  k_dflt ktr_enter
  k_steps
  · refine' leave_more ?K ?F ?R ?U rfl ?n ?_
    case R => assumption
    case K => assumption
    case F => assumption
    case U => assumption
    case n => exact fun p hp => ((by k_asm : News _ _ _ _) p hp).2.2
    intro h' R' U'
    exact hret _ _ _ _ _ _ (by assumption) R' U'
end Mine
namespace Mine
section
variable {prog : Program} {w : World} {A : Around} {E : Value → Shared → Prop} {s : Shared} {env : Env} {h₀ : Heap} {x : Str} {body : List Stmt} {Q : Flow → Shared → Prop}
def m3 (a b c : Value) (m : Str → Option Value) : Str → Option Value := fun y => if y = Str.ofString "pen" then some a else if y = Str.ofString "size" then some b else if y = Str.ofString "wheel" then some c else m y
def LoopJ (P c1 c2 : Addr) (vz vw : Value) (o1 tab : Obj) (i : Nat) (m : Str → Option Value) (nx : Led) : Prop :=
  ∃ st sd kk ta tb tc oc v0, PenOk (1 + 21 * (i : Int)) st sd kk ∧ oc.data = .cell v0 ∧ nx = [(P, penO st sd kk ta tb tc), (c2, o1), (c1, oc), (323, tab)] ∧ m (Str.ofString "pen") = some (.ref P) ∧ m (Str.ofString "size") = some vz ∧ m (Str.ofString "wheel") = some vw
def TurnPost (h₀ : Heap) (L P c1 c2 : Addr) (vz vw : Value) (o1 tab : Obj) (c : Int) (own : Led) (s₁ : Shared) (Q : Flow → Shared → Prop) (f : Flow) (s₂ : Shared) : Prop :=
  match f with
  | .ret v => Q (.ret v) s₂
  | .brk => Q .next s₂
  | _ => ∃ h' tk m' news' st sd kk ta tb tc oc v0, s₂ = { s₁ with heap := h', toks := tk } ∧ Fr h₀ L h' m' ∧ News h₀ L h' news' ∧ PenOk c st sd kk ∧ oc.data = .cell v0 ∧ (P, penO st sd kk ta tb tc) ∈ news' ∧ (c2, o1) ∈ news' ∧ (c1, oc) ∈ news' ∧ (323, tab) ∈ news' ∧ (∀ p ∈ own, p ∈ news') ∧ m' (Str.ofString "pen") = some (.ref P) ∧ m' (Str.ofString "size") = some vz ∧ m' (Str.ofString "wheel") = some vw
theorem m3_eq {m : Str → Option Value} {a b c : Value} (ha : m (Str.ofString "pen") = some a) (hb : m (Str.ofString "size") = some b) (hc : m (Str.ofString "wheel") = some c) : m = m3 a b c m := by
  funext y
  unfold m3
  by_cases h1 : y = Str.ofString "pen"
  · rw [if_pos h1, h1, ha]
  · rw [if_neg h1]
    by_cases h2 : y = Str.ofString "size"
    · rw [if_pos h2, h2, hb]
    · rw [if_neg h2]
      by_cases h3 : y = Str.ofString "wheel"
      · rw [if_pos h3, h3, hc]
      · rw [if_neg h3]
theorem loop_law {r P c1 c2 : Addr} {t₀ u₀ v₀ : Tok} {m₀ : Str → Option Value} {news : Led} {vz vw : Value} {o1 oc tab : Obj} {v0 : Option Value} {st sd kk : Int} {ta tb tc : Tok}
    (hh : A.handled = none) (hr : IsRange s.heap r 0 4 1 t₀ u₀ v₀) (F : Fr h₀ env.locals s.heap m₀) (N : News h₀ env.locals s.heap news)
    (hs : ∀ p ∈ [(P, penO st sd kk ta tb tc), (c2, o1), (c1, oc), (323, tab)], p ∈ news) (hp : PenOk 1 st sd kk) (hoc : oc.data = .cell v0) (m1 : m₀ (Str.ofString "pen") = some (.ref P)) (m2 : m₀ (Str.ofString "size") = some vz) (m3' : m₀ (Str.ofString "wheel") = some vw)
    (turn : ∀ (c k : Int) (t : Tok) (m : Str → Option Value) (st sd kk : Int) (ta tb tc : Tok) (oc : Obj) (v0 : Option Value) (own : Led) (h : Heap) (tk : Nat), 0 ≤ c → c ≤ 800 → PenOk c st sd kk → oc.data = .cell v0 → (∀ p ∈ own, p.1 ≠ P) → (∀ p ∈ own, p.1 ≠ c2) → (∀ p ∈ own, p.1 ≠ c1) → (∀ p ∈ own, p.1 ≠ 323) →
      Fr h₀ env.locals h (fun y => if y = x then some (.int k t) else if y = Str.ofString "pen" then some (.ref P) else if y = Str.ofString "size" then some vz else if y = Str.ofString "wheel" then some vw else m y) → News h₀ env.locals h ((P, penO st sd kk ta tb tc) :: (c2, o1) :: (c1, oc) :: (323, tab) :: own) →
      wpAny (model prog w) A (execs body env) (TurnPost h₀ env.locals P c1 c2 vz vw o1 tab (c + 21) own { s with heap := h, toks := tk } Q) E { s with heap := h, toks := tk })
    (done : ∀ (m : Str → Option Value) (st sd kk : Int) (ta tb tc : Tok) (oc : Obj) (v0 : Option Value) (h : Heap) (tk : Nat), PenOk 85 st sd kk → oc.data = .cell v0 → Fr h₀ env.locals h (fun y => if y = Str.ofString "pen" then some (.ref P) else if y = Str.ofString "size" then some vz else if y = Str.ofString "wheel" then some vw else m y) →
      News h₀ env.locals h [(P, penO st sd kk ta tb tc), (c2, o1), (c1, oc), (323, tab)] → Q .next { s with heap := h, toks := tk }) :
    wpAny (model prog w) A (pyIter (.ref r)) (fun it s₂ => LoopAtV prog w A h₀ env x body Q E it s₂) E s := by
  have N0 := ndrop N hs
  refine wpAny_pyIter_range hr (by decide) ?_
  have W : Walks prog w A s.heap.objs.size [s.heap.objs.size] [s.heap.objs.size] 4 (fun i v => i < 4 ∧ ∃ t, v = .int (0 + i * 1) t)
      (fun i h => IsRangeIter h s.heap.objs.size (0 + (i : Nat) * 1) (((4 : Nat) : Int) - (i : Nat)) 1) := (Walks.range hh _ 0 1 4).bound
  refine loop_invN (LoopJ P c1 c2 vz vw o1 tab) W ?_ ?_ ?_ ?_ (by show IsRangeIter _ _ _ _ _; rw [show Builtin.Range.rangeSize 0 4 1 = ((4 : Nat) : Int) by rfl]; simpa using Heap.get?_push_size _ rfl) (F.push _) (fun p hp => ⟨Heap.get?_push_of_some _ (N0 p hp).1, (N0 p hp).2⟩) ⟨st, sd, kk, ta, tb, tc, oc, v0, hp, hoc, rfl, m1, m2, m3'⟩ ?_ ?_
  · intro hm
    exact absurd F.ns.lt ((List.mem_singleton.mp hm) ▸ Nat.lt_irrefl _)
  · intro b hb
    rw [List.mem_singleton.mp hb]
    exact next_is_new F
  · intro p hp hI
    exact absurd (Heap.lt_size (N0 p hp).1) ((List.mem_singleton.mp hI) ▸ Nat.lt_irrefl _)
  · intro p hp hI
    exact absurd (Heap.lt_size (N0 p hp).1) ((List.mem_singleton.mp hI) ▸ Nat.lt_irrefl _)
  · rintro i v m₁ nx h tk own hi ⟨_, t, rfl⟩ _ hoff ⟨st', sd', kk', ta', tb', tc', oc', v0', hp', hoc', rfl, q1, q2, q3⟩ F' N'
    rw [m3_eq q1 q2 q3] at F'
    refine wpAny_mono (turn (1 + 21 * (i : Int)) _ t m₁ st' sd' kk' ta' tb' tc' oc' v0' own h tk (by omega) (by omega) hp' hoc' (fun p hp => hoff p hp _ (by simp)) (fun p hp => hoff p hp _ (by simp)) (fun p hp => hoff p hp _ (by simp)) (fun p hp => hoff p hp _ (by simp)) F' N') (fun f s₂ z => ?_) fun _ _ e => e
    have key : (∃ h' tk2 m' news' st sd kk ta tb tc oc v0, s₂ = { s with heap := h', toks := tk2 } ∧ Fr h₀ env.locals h' m' ∧ News h₀ env.locals h' news' ∧ PenOk (1 + 21 * (i : Int) + 21) st sd kk ∧ oc.data = .cell v0 ∧ (P, penO st sd kk ta tb tc) ∈ news' ∧ (c2, o1) ∈ news' ∧ (c1, oc) ∈ news' ∧ (323, tab) ∈ news' ∧ (∀ p ∈ own, p ∈ news') ∧ m' (Str.ofString "pen") = some (.ref P) ∧ m' (Str.ofString "size") = some vz ∧ m' (Str.ofString "wheel") = some vw) →
        InvEndN h₀ env.locals (LoopJ P c1 c2 vz vw o1 tab (i + 1)) own ([(P, penO st sd kk ta tb tc), (c2, o1), (c1, oc), (323, tab)].map (·.1)) { s with heap := h, toks := tk } s₂ := by
      rintro ⟨h', tk2, m', news', st2, sd2, kk2, ta2, tb2, tc2, oc2, v02, e, F2, N2, p2, q2, a1, a2, a3, a4, ho, b1, b2, b3⟩
      refine ⟨h', tk2, m', news', [(P, penO st2 sd2 kk2 ta2 tb2 tc2), (c2, o1), (c1, oc2), (323, tab)], e, F2, N2, ?_, ho, rfl, ⟨st2, sd2, kk2, ta2, tb2, tc2, oc2, v02, ?_, q2, rfl, b1, b2, b3⟩⟩
      · intro p hp
        simp only [List.mem_cons, List.not_mem_nil, or_false] at hp
        rcases hp with rfl | rfl | rfl | rfl <;> assumption
      · have : (1 + 21 * ((i + 1 : Nat) : Int)) = 1 + 21 * (i : Int) + 21 := by omega
        rw [this]; exact p2
    cases f with
    | ret v => exact z
    | brk => exact z
    | next => exact key z
    | cont => exact key z
  · rintro m₁ nx h tk ⟨st', sd', kk', ta', tb', tc', oc', v0', hp', hoc', rfl, q1, q2, q3⟩ F' N'
    rw [m3_eq q1 q2 q3] at F'
    exact done m₁ st' sd' kk' ta' tb' tc' oc' v0' h tk hp' hoc' F' N'
end
end Mine
namespace Mine
theorem pickL_ok : ∀ (bs : List Bool) (pq : List (Str × Str)), (pq.all fun z => PyData.strOk z.1 && PyData.strOk z.2) = true → ((pickL bs pq).all PyData.strOk) = true
  | [], _, _ => by unfold pickL; rfl
  | _ :: _, [], _ => by unfold pickL; rfl
  | b :: bs, (p, q) :: r, h => by
    unfold pickL
    rw [List.all_cons, Bool.and_eq_true, Bool.and_eq_true] at h
    rw [List.all_cons, pickL_ok bs r h.2, Bool.and_true]
    cases b
    · exact h.1.2
    · exact h.1.1
theorem canLay_strs : ∀ xs : List Str, (xs.all PyData.strOk) = true → PyData.canLayAll0 (xs.map PyData.str) = true
  | [], _ => by simp [PyData.canLayAll0]
  | x :: r, h => by
    rw [List.all_cons, Bool.and_eq_true] at h
    rw [List.map_cons, PyData.canLayAll0, PyData.canLay0, h.1, canLay_strs r h.2]
    rfl
theorem depth_strs : ∀ xs : List Str, PyData.depthAll (xs.map PyData.str) ≤ 1
  | [] => by simp [PyData.depthAll]
  | x :: r => by
    have := depth_strs r
    simp only [List.map_cons, PyData.depthAll, PyData.depth]
    omega
theorem shaped_strs {xs : List Str} (h : (xs.all PyData.strOk) = true) : PySem.SeqAt.shaped (.list (xs.map PyData.str)) = true := by
  have h1 := depth_strs xs
  have h2 : PyData.depth (.list (xs.map PyData.str)) ≤ 64 := by simp only [PyData.depth]; omega
  show (PyData.canLay0 (.list (xs.map PyData.str)) && decide (PyData.depth (.list (xs.map PyData.str)) ≤ 64)) = true
  rw [Bool.and_eq_true]
  exact ⟨by simp only [PyData.canLay0]; exact canLay_strs xs h, decide_eq_true h2⟩
theorem noMix_strs : ∀ xs : List Str, PySem.SeqAt.noMixAll (xs.map PyData.str) (xs.map PyData.str) = true
  | [] => by simp [PySem.SeqAt.noMixAll]
  | x :: r => by simp [PySem.SeqAt.noMixAll, PySem.SeqAt.noMix, noMix_strs r]
theorem same_strs : ∀ xs : List Str, PySem.Spec.sameAll (xs.map PyData.str) (xs.map PyData.str) = true
  | [] => by simp [PySem.Spec.sameAll]
  | x :: r => by simp [PySem.Spec.sameAll, PySem.Spec.same, same_strs r]
theorem reads_strs {h : Heap} {a : Addr} {vs : List Value} {xs : List Str} (hl : h.IsList a vs.toArray) (hi : StrsAre vs xs) : Reads h (.ref a) (.list (xs.map PyData.str)) [a] := by
  obtain ⟨o, ho, hc, n, hd⟩ := hl
  exact Reads.list ho hc hd (by simpa using strs_readAll h hi)
theorem ne_strs {prog : Program} {w : World} {A : Around} {E : Value → Shared → Prop} {s : Shared} {h₀ : Heap} {L a b : Addr} {news : Led} {vs us : List Value} {xs ys : List Str} {n1 n2 : Nat} {Q : Value → Shared → Prop} (N : News h₀ L s.heap news) (m1 : (a, listOf vs.toArray n1) ∈ news) (m2 : (b, listOf us.toArray n2) ∈ news)
    (hi : StrsAre vs xs) (hi' : StrsAre us ys) (e : xs = ys) (hok : (ys.all PyData.strOk) = true) (hu : A.units + 64 < cLine) (h : Q (.bool false) s) : wpAny (model prog w) A (compareOp .NotEq (.ref a) (.ref b)) Q E s := by
  subst e
  have hl : s.heap.IsList a vs.toArray := PySem.IsL.isList (n := n1) (N _ m1).1
  have hl' : s.heap.IsList b us.toArray := PySem.IsL.isList (n := n2) (N _ m2).1
  exact ne_dataH_same (reads_strs hl hi) (reads_strs hl' hi') (shaped_strs hok) (shaped_strs hok) hu (by simp only [PySem.SeqAt.noMix]; exact noMix_strs xs) (by simp only [PySem.Spec.same]; rw [same_strs]; exact h)
end Mine
namespace Mine
section
variable {prog : Program} {w : World} {A₀ A : Around} {s : Shared} {base h₀ : Heap} {env : Env} {L : Addr} {m : Str → Option Value} {news : Led} {K : Frag} {p : Program} {loose : List Str} {mean : ExcName → Option Value} {mg mb : Str → Option Value}
    {R : Result → Shared → Prop} {name qual : Str} {params : Arguments} {body : List Stmt} {scope : Scope} {dV kV doc pm cdv ct oc : Value} {an od : Option Addr} {osl : Array (Option Value)} {f : Addr} {args : Args} {binds : List (Str × Value)}
/-- a def that catches, called from the outermost frame (which may bear cells) -/
theorem code_catch (B : Below A₀ base [] h₀) (F : Fr h₀ L s.heap m) (X₀ : K.In h₀) (N : News h₀ L s.heap news) (T : Top p loose mean mg mb h₀) (hA : A.frames = some [env]) (hf : env.frame = some L) (hke : env.scope.kind = .function)
    (ho : K.lookup f = some ⟨oc, od, .func (fnOf name qual params body scope dV kV doc pm an cdv ct), osl⟩) (hcd : codeIn K cdv qual = true) (hroom : A.depth < recursionLimit)
    (hbind : BindsTo s (fnOf name qual params body scope dV kV doc pm an cdv ct) args binds) (hloc : ∀ y ∈ binds, scope.names.lookup y.1 = some .local)
    (h : ∀ g L' h₁, Fr h₀ L g m → Fr g L' h₁ (fun y => binds.reverse.lookup y) → News g L' h₁ news → Below A base [env] g → K.In g → Top p loose mean mg mb g → KtsDicts ([env].filterMap (·.frame)) g →
      wpAny (model prog w) (A.deeper (envOf qual scope L' f cdv)) (execs body (envOf qual scope L' f cdv))
        (fun fl s' => LeaveS0 ([env].filterMap (·.frame)) h₀ L m g R (match fl with | .ret v => v | _ => .none) s')
        (fun e s' => wpAny (model prog w) (A.deeper (envOf qual scope L' f cdv)) (leaving (envOf qual scope L' f cdv) e) (fun _ s'' => R (.error e) s'') (fun e' s'' => R (.error e') s'') s')
        { s with heap := h₁, toks := s.toks + binds.length })
    (hco : scope.isCoroutine = false) (hgen : scope.isGenerator = false) (hk : scope.kind = .function)
    (hcell : ∀ x ∈ scope.names, x.2 ≠ .cell) : codeAny (model prog w) A (.call (.ref f) args) R s := by
  have X := X₀.keeps F.keep
  obtain ⟨FG, BG, st, -⟩ := groundX (R := R) B F N hA hf hke
  have fs : [env].filterMap (·.frame) = [L] := by simp [hf]
  obtain ⟨oL, es, ep, hL, hLd, hLk, hLf⟩ := FG.ns
  refine codeAny_call_def (fd := fnOf name qual params body scope dV kV doc pm an cdv ct) (body := body) (binds := binds) hroom (X _ _ ho) rfl (T.nolimit.keeps F.keep) (codeRec_of X hcd) rfl hbind hcell hloc (fun h₁ hns hk₁ => ?_) hco hgen hk
  refine wpAny_mono (h _ s.heap.objs.size h₁ FG ⟨hns, fun b o e => hk₁ b o (of_hideAll _ e), Nat.le_of_eq (hideAll_size _ _)⟩
    (fun p hp => ⟨hk₁ _ _ (N p hp).1, Nat.ne_of_lt (Heap.lt_size (N p hp).1), hideAll_none _ (List.mem_map_of_mem hp)⟩) BG (X₀.keeps st) (T.keeps st) (fun b hb => by
      rw [fs, List.mem_singleton] at hb
      subst hb
      exact ⟨oL, es, ep, hL, hLd⟩)) (fun fl s' hl => ?_) fun _ _ y => y
  obtain ⟨g', L', m', news', T', F', N', k⟩ := hl
  have nL₀ : h₀.get? L = none := kts_self F
  obtain ⟨sl, hs⟩ := T'.up hL
  refine k ⟨⟨_, es, ep, F'.keep _ _ hs, hLd, hLk, hLf⟩, fun b o e => F'.keep b o (T'.other b o (st b o e) (fun q => by
    rw [fs, List.mem_singleton] at q
    rw [q, nL₀] at e
    cases e)), F.above⟩ fun p hp => ⟨(N' p hp).1, fun q => ?_, ?_⟩
  · have := (N' p hp).2.2; rw [q, hs] at this; cases this
  · cases q : h₀.get? p.1 with
    | none => rfl
    | some o =>
      obtain ⟨sl', hs'⟩ := T'.up (st _ _ q)
      have := (N' p hp).2.2
      rw [hs'] at this
      cases this
end
end Mine
namespace Mine
/-- a contract for calls from the outermost frame -/
def CtrL (w : World) (d : Nat) (f : Addr) (vs : List Value) (news : Led) (P : Value → Led → Prop) : Prop :=
  ∀ (p : Program) (loose : List Str) (mean : ExcName → Option Value) (mg mb : Str → Option Value) (dp un : Nat) (gd : Option (List Code)) (cn : Str) (cs : Scope) (a : Addr) (ccd : Value) (cl : List (Str × Addr)) (A₀ : Around) (base h₀ : Heap) (L : Addr) (m : Str → Option Value) (s : Shared) (Q E : Value → Shared → Prop),
    Below A₀ base [] h₀ → Fr h₀ L s.heap m → (Mine.mk.heap_1 w.params).In h₀ → News h₀ L s.heap news → Top p loose mean mg mb h₀ → (Mine.mk.heap_1 w.params).In base → Top p loose mean mg mb base → cs.kind = .function → dp + d < recursionLimit → un + 8 * d < cLine →
    (∀ v news' h' tk', P v news' → Fr h₀ L h' m → News h₀ L h' news' → Q v { s with heap := h', toks := tk' }) →
    wpAny (model PySem.Challenge.rw_pq0794_01.row.prog w) (ktrTop dp un gd cn cs L a ccd cl []) (call (.ref f) vs) Q E s
theorem refused_l {w : World} {lam : Addr} {news : Led} {d : Nat} {fd : FuncData} (C : RCtr w d lam [] news) (hlam : (lam, ({ cls := .type "function", data := .func fd } : Obj)) ∈ news) : CtrL w (d + 2) 321 [.ref lam] news (BoolP true news) := by
  unfold CtrL
  k_fill
  intro p loose mean mg mb dp un gd cn cs a ccd cl A₀ base h₀ L m s Q E B F X N T XB TB hk hd hu hret
  refine wpAny_call ?_
  k_dflt (refine' code_catch ?k1 ?k2 ?k3 ?k4 ?k5 ?kA ?kF ?kK ?k6 ?k7 ?k8 ?k9 ?kB ?_ ?c2 ?c3 ?c4 ?c5; (case kA => exact rfl); (case kF => exact rfl); (case kK => first | assumption | exact rfl); (case k1 => k_asm); (case k2 => k_asm); (case k3 => k_asm); (case k4 => k_asm); (case k5 => k_asm); (case k6 => k_is); (case k7 => k_is); (case k8 => ktr_room); (case k9 => exact BindsTo.of_eq rfl); (case c5 => decide); (case kB => exact locs rfl); (case c2 => exact rfl); (case c3 => exact rfl); (case c4 => exact rfl); k_whole; intro g' L' h' FG' F' N' B' X' T' D'; (try dsimp only); (try k_fold))
  k_with "call ref" => (k_here; (with_reducible show wpAny _ _ (PySem.call (Value.ref lam) _) _ _ _); (try dsimp only [List.nil_append, List.cons_append]); k_dflt (refine' useR C ?kB ?kF ?kX ?kN ?kT ?kK ?kd ?ku ?_; (case kN => k_asm); (case kB => k_asm); (case kF => k_asm); (case kX => k_asm); (case kT => k_asm); (case kK => first | exact rfl | assumption); (case kd => ktr_room); (case ku => ktr_units)); intro e9 t9 ws9 G9 h9 tk9 FG9 R9 U9; (try dsimp only))
  k_with "callWith ref" => (k_here; (with_reducible show wpAny _ _ (callWith _ (Value.ref lam) _ _ _) _ _ _); k_dflt (refine' callWith_F0 ?k1 ?_; (case k1 => exact FnAt.of (by k_asm) hlam)); (try dsimp only [List.nil_append, List.cons_append]))
  k_steps
  exact hret _ _ _ _ ⟨rfl, rfl⟩ (by k_asm) (by k_asm)
theorem useL {w : World} {d : Nat} {f : Addr} {vs : List Value} {news : Led} {b : Bool} {p : Program} {loose : List Str} {mean : ExcName → Option Value} {mg mb : Str → Option Value} {dp un : Nat} {gd : Option (List Code)} {cn : Str} {cs : Scope} {a : Addr} {ccd : Value} {cl : List (Str × Addr)} {A₀ : Around} {base h₀ : Heap} {L : Addr} {m : Str → Option Value} {s : Shared} {Q E : Value → Shared → Prop}
    (C : CtrL w d f vs news (BoolP b news)) (B : Below A₀ base [] h₀) (F : Fr h₀ L s.heap m) (X : (Mine.mk.heap_1 w.params).In h₀) (N : News h₀ L s.heap news) (T : Top p loose mean mg mb h₀) (XB : (Mine.mk.heap_1 w.params).In base) (TB : Top p loose mean mg mb base) (hk : cs.kind = .function) (hd : dp + d < recursionLimit) (hu : un + 8 * d < cLine)
    (h : ∀ h' tk', Fr h₀ L h' m → News h₀ L h' news → Q (.bool b) { s with heap := h', toks := tk' }) :
    wpAny (model PySem.Challenge.rw_pq0794_01.row.prog w) (ktrTop dp un gd cn cs L a ccd cl []) (call (.ref f) vs) Q E s :=
  C p loose mean mg mb dp un gd cn cs a ccd cl A₀ base h₀ L m s Q E B F X N T XB TB hk hd hu (by rintro v n' h' tk' ⟨rfl, rfl⟩ F' N'; exact h h' tk' F' N')
end Mine
namespace Mine
theorem rows37 : True := by
  k_with_none
  k_with "call ref" => (k_here; (with_reducible show wpAny _ _ (PySem.call (Value.ref 68) _) _ _ _); (try dsimp only [List.nil_append, List.cons_append]); k_dflt (refine' useInt ?kC ?kB ?kF ?kX ?kN ?kT ?kK ?kd ?ku ?_; (case kN => k_asm); (case kC => (with_reducible_and_instances refine' mask_c ?c0 ?c1); (case c0 => first | assumption | decide | omega); (case c1 => first | assumption | decide | omega)); (case kB => k_asm); (case kF => k_asm); (case kX => k_asm); (case kT => k_asm); (case kK => first | exact rfl | assumption); (case kd => ktr_room); (case ku => ktr_units)); intro t9 h9 tk9 F9 N9; (try dsimp only); (try k_sweep))
  k_with "call ref" => (k_here; (with_reducible show wpAny _ _ (PySem.call (Value.ref 257) _) _ _ _); (try dsimp only [List.nil_append, List.cons_append]); k_dflt (refine' useInt ?kC ?kB ?kF ?kX ?kN ?kT ?kK ?kd ?ku ?_; (case kN => k_asm); (case kC => (with_reducible_and_instances refine' base_c )); (case kB => k_asm); (case kF => k_asm); (case kX => k_asm); (case kT => k_asm); (case kK => first | exact rfl | assumption); (case kd => ktr_room); (case ku => ktr_units)); intro t9 h9 tk9 F9 N9; (try dsimp only); (try k_sweep))
  k_with "call ref" => (k_here; (with_reducible show wpAny _ _ (PySem.call (Value.ref 82) _) _ _ _); (try dsimp only [List.nil_append, List.cons_append]); k_dflt (refine' useInt ?kC ?kB ?kF ?kX ?kN ?kT ?kK ?kd ?ku ?_; (case kN => k_asm); (case kC => (with_reducible_and_instances refine' bit_c ?c0 ?c1); (case c0 => first | assumption | decide | omega); (case c1 => first | assumption | decide | omega)); (case kB => k_asm); (case kF => k_asm); (case kX => k_asm); (case kT => k_asm); (case kK => first | exact rfl | assumption); (case kd => ktr_room); (case ku => ktr_units)); intro t9 h9 tk9 F9 N9; (try dsimp only); (try k_sweep))
  k_with "call ref" => (k_here; (with_reducible show wpAny _ _ (PySem.call (Value.ref 271) _) _ _ _); (try dsimp only [List.nil_append, List.cons_append]); k_dflt (refine' useTake ?kC ?kB ?kF ?kX ?kN ?kT ?kK ?kd ?ku ?_; (case kN => k_asm); (case kC => (with_reducible_and_instances refine' take_u ?U ?hp ?hc ?h0 ?hl); (case U => intro _ _ _ _ _ _; k_upd); (case hp => assumption); (case hc => first | assumption | decide | omega); (case h0 => first | assumption | decide | omega); (case hl => first | assumption | decide +kernel)); (case kB => k_asm); (case kF => k_asm); (case kX => k_asm); (case kT => k_asm); (case kK => first | exact rfl | assumption); (case kd => ktr_room); (case ku => ktr_units)); intro r9 st9 sd9 kk9 t9 ta9 tb9 tc9 h9 tk9 q9 q9' p9 F9 N9; (try dsimp only at N9); (try dsimp only); (try k_sweep))
  k_with "call ref" => (k_here; (with_reducible show wpAny _ _ (PySem.call (Value.ref 75) _) _ _ _); (try dsimp only [List.nil_append, List.cons_append]); k_dflt (refine' useInt ?kC ?kB ?kF ?kX ?kN ?kT ?kK ?kd ?ku ?_; (case kN => k_asm); (case kC => (with_reducible_and_instances refine' wrap_c ?c0 ?c1); (case c0 => first | assumption | decide | omega); (case c1 => first | assumption | decide | omega)); (case kB => k_asm); (case kF => k_asm); (case kX => k_asm); (case kT => k_asm); (case kK => first | exact rfl | assumption); (case kd => ktr_room); (case ku => ktr_units)); intro t9 h9 tk9 F9 N9; (try dsimp only); (try k_sweep))
  k_with "call ref" => (k_here; (with_reducible show wpAny _ _ (PySem.call (Value.ref 89) _) _ _ _); (try dsimp only [List.nil_append, List.cons_append]); k_dflt (refine' useInt ?kC ?kB ?kF ?kX ?kN ?kT ?kK ?kd ?ku ?_; (case kN => k_asm); (case kC => (with_reducible_and_instances refine' ones_c )); (case kB => k_asm); (case kF => k_asm); (case kX => k_asm); (case kT => k_asm); (case kK => first | exact rfl | assumption); (case kd => ktr_room); (case ku => ktr_units)); intro t9 h9 tk9 F9 N9; (try dsimp only); (try k_sweep))
  k_with "call ref" => (k_here; (with_reducible show wpAny _ _ (PySem.call (Value.ref 96) _) _ _ _); (try dsimp only [List.nil_append, List.cons_append]); k_dflt (refine' useInt ?kC ?kB ?kF ?kX ?kN ?kT ?kK ?kd ?ku ?_; (case kN => k_asm); (case kC => (with_reducible_and_instances refine' parity_c )); (case kB => k_asm); (case kF => k_asm); (case kX => k_asm); (case kT => k_asm); (case kK => first | exact rfl | assumption); (case kd => ktr_room); (case ku => ktr_units)); intro t9 h9 tk9 F9 N9; (try dsimp only); (try k_sweep))
  k_with "call ref" => (k_here; (with_reducible show wpAny _ _ (PySem.call (Value.ref 290) _) _ _ _); (try dsimp only [List.nil_append, List.cons_append]); k_dflt (refine' useInt ?kC ?kB ?kF ?kX ?kN ?kT ?kK ?kd ?ku ?_; (case kN => k_asm); (case kC => (with_reducible_and_instances refine' even_c )); (case kB => k_asm); (case kF => k_asm); (case kX => k_asm); (case kT => k_asm); (case kK => first | exact rfl | assumption); (case kd => ktr_room); (case ku => ktr_units)); intro t9 h9 tk9 F9 N9; (try dsimp only); (try k_sweep))
  k_with "call ref" => (k_here; (with_reducible show wpAny _ _ (PySem.call (Value.ref 208) _) _ _ _); (try dsimp only [List.nil_append, List.cons_append]); k_dflt (refine' useFlag ?kC ?kB ?kF ?kX ?kN ?kT ?kK ?kd ?ku ?_; (case kN => k_asm); (case kC => (with_reducible_and_instances refine' flag_u ?U (szp_c ?hm filter_ne ?c0 ?c1)); (case hm => refine' mem_filter ?m1 ?m2; (case m1 => k_mem); (case m2 => first | assumption | k_ne)); (case U => intro _ _ _ _ _ _ _; k_upd); (case c0 => first | assumption | decide | omega); (case c1 => first | assumption | decide | omega)); (case kB => k_asm); (case kF => k_asm); (case kX => k_asm); (case kT => k_asm); (case kK => first | exact rfl | assumption); (case kd => ktr_room); (case ku => ktr_units)); intro t9 ta9 tb9 tc9 td9 te9 tf9 tg9 h9 tk9 F9 N9; (try dsimp only at N9); (try dsimp only); (try k_sweep))
  k_with "call ref" => (k_here; (with_reducible show wpAny _ _ (PySem.call (Value.ref 215) _) _ _ _); (try dsimp only [List.nil_append, List.cons_append]); k_dflt (refine' useFlag ?kC ?kB ?kF ?kX ?kN ?kT ?kK ?kd ?ku ?_; (case kN => k_asm); (case kC => (with_reducible_and_instances refine' flag_u ?U (add_c ?hm filter_ne ?c0 ?c1 ?c2 ?c3)); (case hm => refine' mem_filter ?m1 ?m2; (case m1 => k_mem); (case m2 => first | assumption | k_ne)); (case U => intro _ _ _ _ _ _ _; k_upd); (case c0 => first | assumption | decide | omega); (case c1 => first | assumption | decide | omega); (case c2 => first | assumption | decide | omega); (case c3 => first | assumption | decide | omega)); (case kB => k_asm); (case kF => k_asm); (case kX => k_asm); (case kT => k_asm); (case kK => first | exact rfl | assumption); (case kd => ktr_room); (case ku => ktr_units)); intro t9 ta9 tb9 tc9 td9 te9 tf9 tg9 h9 tk9 F9 N9; (try dsimp only at N9); (try dsimp only); (try k_sweep))
  k_with "call ref" => (k_here; (with_reducible show wpAny _ _ (PySem.call (Value.ref 222) _) _ _ _); (try dsimp only [List.nil_append, List.cons_append]); k_dflt (refine' useFlag ?kC ?kB ?kF ?kX ?kN ?kT ?kK ?kd ?ku ?_; (case kN => k_asm); (case kC => (with_reducible_and_instances refine' flag_u ?U (sub_c ?hm filter_ne ?c0 ?c1 ?c2 ?c3)); (case hm => refine' mem_filter ?m1 ?m2; (case m1 => k_mem); (case m2 => first | assumption | k_ne)); (case U => intro _ _ _ _ _ _ _; k_upd); (case c0 => first | assumption | decide | omega); (case c1 => first | assumption | decide | omega); (case c2 => first | assumption | decide | omega); (case c3 => first | assumption | decide | omega)); (case kB => k_asm); (case kF => k_asm); (case kX => k_asm); (case kT => k_asm); (case kK => first | exact rfl | assumption); (case kd => ktr_room); (case ku => ktr_units)); intro t9 ta9 tb9 tc9 td9 te9 tf9 tg9 h9 tk9 F9 N9; (try dsimp only at N9); (try dsimp only); (try k_sweep))
  k_with "call ref" => (k_here; (with_reducible show wpAny _ _ (PySem.call (Value.ref 229) _) _ _ _); (try dsimp only [List.nil_append, List.cons_append]); k_dflt (refine' useFlag ?kC ?kB ?kF ?kX ?kN ?kT ?kK ?kd ?ku ?_; (case kN => k_asm); (case kC => (with_reducible_and_instances refine' flag_u ?U (logic_c ?hm filter_ne ?c0 ?c1)); (case hm => refine' mem_filter ?m1 ?m2; (case m1 => k_mem); (case m2 => first | assumption | k_ne)); (case U => intro _ _ _ _ _ _ _; k_upd); (case c0 => first | assumption | decide | omega); (case c1 => first | assumption | decide | omega)); (case kB => k_asm); (case kF => k_asm); (case kX => k_asm); (case kT => k_asm); (case kK => first | exact rfl | assumption); (case kd => ktr_room); (case ku => ktr_units)); intro t9 ta9 tb9 tc9 td9 te9 tf9 tg9 h9 tk9 F9 N9; (try dsimp only at N9); (try dsimp only); (try k_sweep))
  k_with "call ref" => (k_here; (with_reducible show wpAny _ _ (PySem.call (Value.ref 236) _) _ _ _); (try dsimp only [List.nil_append, List.cons_append]); k_dflt (refine' useFlag ?kC ?kB ?kF ?kX ?kN ?kT ?kK ?kd ?ku ?_; (case kN => k_asm); (case kC => (with_reducible_and_instances refine' flag_u ?U (inc_c ?hm filter_ne ?c0 ?c1)); (case hm => refine' mem_filter ?m1 ?m2; (case m1 => k_mem); (case m2 => first | assumption | k_ne)); (case U => intro _ _ _ _ _ _ _; k_upd); (case c0 => first | assumption | decide | omega); (case c1 => first | assumption | decide | omega)); (case kB => k_asm); (case kF => k_asm); (case kX => k_asm); (case kT => k_asm); (case kK => first | exact rfl | assumption); (case kd => ktr_room); (case ku => ktr_units)); intro t9 ta9 tb9 tc9 td9 te9 tf9 tg9 h9 tk9 F9 N9; (try dsimp only at N9); (try dsimp only); (try k_sweep))
  k_with "call ref" => (k_here; (with_reducible show wpAny _ _ (PySem.call (Value.ref 243) _) _ _ _); (try dsimp only [List.nil_append, List.cons_append]); k_dflt (refine' useFlag ?kC ?kB ?kF ?kX ?kN ?kT ?kK ?kd ?ku ?_; (case kN => k_asm); (case kC => (with_reducible_and_instances refine' flag_u ?U (dec_c ?hm filter_ne ?c0 ?c1)); (case hm => refine' mem_filter ?m1 ?m2; (case m1 => k_mem); (case m2 => first | assumption | k_ne)); (case U => intro _ _ _ _ _ _ _; k_upd); (case c0 => first | assumption | decide | omega); (case c1 => first | assumption | decide | omega)); (case kB => k_asm); (case kF => k_asm); (case kX => k_asm); (case kT => k_asm); (case kK => first | exact rfl | assumption); (case kd => ktr_room); (case ku => ktr_units)); intro t9 ta9 tb9 tc9 td9 te9 tf9 tg9 h9 tk9 F9 N9; (try dsimp only at N9); (try dsimp only); (try k_sweep))
  k_with "call ref" => (k_here; (with_reducible show wpAny _ _ (PySem.call (Value.ref 250) _) _ _ _); (try dsimp only [List.nil_append, List.cons_append]); k_dflt (refine' useFlag ?kC ?kB ?kF ?kX ?kN ?kT ?kK ?kd ?ku ?_; (case kN => k_asm); (case kC => (with_reducible_and_instances refine' flag_u ?U (neg_c ?hm filter_ne ?c0 ?c1)); (case hm => refine' mem_filter ?m1 ?m2; (case m1 => k_mem); (case m2 => first | assumption | k_ne)); (case U => intro _ _ _ _ _ _ _; k_upd); (case c0 => first | assumption | decide | omega); (case c1 => first | assumption | decide | omega)); (case kB => k_asm); (case kF => k_asm); (case kX => k_asm); (case kT => k_asm); (case kK => first | exact rfl | assumption); (case kd => ktr_room); (case ku => ktr_units)); intro t9 ta9 tb9 tc9 td9 te9 tf9 tg9 h9 tk9 F9 N9; (try dsimp only at N9); (try dsimp only); (try k_sweep))
  k_with "call ref" => (k_here; (with_reducible show wpAny _ _ (PySem.call (Value.ref 103) _) _ _ _); (try dsimp only [List.nil_append, List.cons_append]); k_dflt (refine' useStrs ?kC ?kB ?kF ?kX ?kN ?kT ?kK ?kd ?ku ?_; (case kN => k_asm); (case kC => (with_reducible_and_instances refine' cn_c )); (case kB => k_asm); (case kF => k_asm); (case kX => k_asm); (case kT => k_asm); (case kK => first | exact rfl | assumption); (case kd => ktr_room); (case ku => ktr_units)); intro D9 l9 h9 tk9 a9 s9 b9 F9 N9; (try k_lt b9); (try dsimp only); (try k_sweep))
  k_with "call ref" => (k_here; (with_reducible show wpAny _ _ (PySem.call (Value.ref 187) _) _ _ _); (try dsimp only [List.nil_append, List.cons_append]); k_dflt (refine' useInt ?kC ?kB ?kF ?kX ?kN ?kT ?kK ?kd ?ku ?_; (case kN => k_asm); (case kC => (with_reducible_and_instances refine' cnum_c ?c0); (case c0 => first | assumption | decide | omega)); (case kB => k_asm); (case kF => k_asm); (case kX => k_asm); (case kT => k_asm); (case kK => first | exact rfl | assumption); (case kd => ktr_room); (case ku => ktr_units)); intro t9 h9 tk9 F9 N9; (try dsimp only); (try k_sweep))
  k_with "call ref" => (k_here; (with_reducible show wpAny _ _ (PySem.call (Value.ref 194) _) _ _ _); (try dsimp only [List.nil_append, List.cons_append]); k_dflt (refine' useBool ?kC ?kB ?kF ?kX ?kN ?kT ?kK ?kd ?ku ?_; (case kN => k_asm); (case kC => (with_reducible_and_instances refine' hnum_c ?m1 ?m2); (case m1 => k_mem); (case m2 => k_mem)); (case kB => k_asm); (case kF => k_asm); (case kX => k_asm); (case kT => k_asm); (case kK => first | exact rfl | assumption); (case kd => ktr_room); (case ku => ktr_units)); intro h9 tk9 F9 N9; (try dsimp only); (try k_sweep))
  k_with "call ref" => (k_here; (with_reducible show wpAny _ _ (PySem.call (Value.ref 201) _) _ _ _); (try dsimp only [List.nil_append, List.cons_append]); k_dflt (refine' useBool ?kC ?kB ?kF ?kX ?kN ?kT ?kK ?kd ?ku ?_; (case kN => k_asm); (case kC => (with_reducible_and_instances refine' holds_c ?m1 ?m2 ?c0); (case m1 => k_mem); (case m2 => k_mem); (case c0 => first | assumption | decide | omega)); (case kB => k_asm); (case kF => k_asm); (case kX => k_asm); (case kT => k_asm); (case kK => first | exact rfl | assumption); (case kd => ktr_room); (case ku => ktr_units)); intro h9 tk9 F9 N9; (try dsimp only); (try k_sweep))
  k_with "call ref" => (k_here; (with_reducible show wpAny _ _ (PySem.call (Value.ref 285) _) _ _ _); (try dsimp only [List.nil_append, List.cons_append]); k_dflt (refine' useInt ?kC ?kB ?kF ?kX ?kN ?kT ?kK ?kd ?ku ?_; (case kN => k_asm); (case kC => (with_reducible_and_instances refine' signed_c ?c0 ?c1); (case c0 => first | assumption | decide | omega); (case c1 => first | assumption | decide | omega)); (case kB => k_asm); (case kF => k_asm); (case kX => k_asm); (case kT => k_asm); (case kK => first | exact rfl | assumption); (case kd => ktr_room); (case ku => ktr_units)); intro t9 h9 tk9 F9 N9; (try dsimp only); (try k_sweep))
  k_with "call ref" => (k_here; (with_reducible show wpAny _ _ (PySem.call (Value.ref 297) _) _ _ _); (try dsimp only [List.nil_append, List.cons_append]); k_dflt (refine' useDue ?kC ?kB ?kF ?kX ?kN ?kT ?kK ?kd ?ku ?_; (case kN => k_asm); (case kC => (with_reducible_and_instances refine' due_c ?c0 ?c1 ?c2 ?c3 ?c4 ?c5 ?c6 ?c7 ?c8); (case c0 => first | assumption | decide | omega); (case c1 => first | assumption | decide | omega); (case c2 => first | assumption | decide | omega); (case c3 => first | assumption | decide | omega); (case c4 => first | assumption | decide | omega); (case c5 => first | assumption | decide | omega); (case c6 => first | assumption | decide | omega); (case c7 => first | assumption | decide | omega); (case c8 => first | assumption | decide | omega)); (case kB => k_asm); (case kF => k_asm); (case kX => k_asm); (case kT => k_asm); (case kK => first | exact rfl | assumption); (case kd => ktr_room); (case ku => ktr_units)); intro Dd Dt ta9 tb9 tc9 td9 te9 tf9 tg9 h9 tk9 b9 b9' F9 N9; (try k_lt b9); (try k_lt2 b9'); (try dsimp only); (try k_sweep))
  k_with "call ref" => (k_here; (with_reducible show wpAny _ _ (PySem.call (Value.ref 302) _) _ _ _); (try dsimp only [List.nil_append, List.cons_append]); k_dflt (refine' useCond ?kC ?kB ?kF ?kX ?kN ?kT ?kK ?kd ?ku ?_; (case kN => k_asm); (case kC => (with_reducible_and_instances refine' cond_c ?c0 ?c1 ?c2 ?c3 ?c4); (case c0 => first | assumption | exact Int.emod_nonneg _ (Int.ne_of_gt (kbt_pos _))); (case c1 => first | assumption | exact Int.emod_lt_of_pos _ (kbt_pos _)); (case c2 => first | assumption | exact Int.emod_nonneg _ (Int.ne_of_gt (kbt_pos _))); (case c3 => first | assumption | exact Int.emod_lt_of_pos _ (kbt_pos _)); (case c4 => first | assumption | exact pow_le (And.right hz9z))); (case kB => k_asm); (case kF => k_asm); (case kX => k_asm); (case kT => k_asm); (case kK => first | exact rfl | assumption); (case kd => ktr_room); (case ku => ktr_units)); intro D9 zs9 h9 tk9 hz9 b9 F9 N9; (try k_lt b9); (try dsimp only); (try k_sweep))
  k_with "call ref" => (k_here; (with_reducible show wpAny _ _ (PySem.call (Value.ref 307) _) _ _ _); (try dsimp only [List.nil_append, List.cons_append]); k_dflt (refine' useJunk ?kC ?kB ?kF ?kX ?kN ?kT ?kK ?kd ?ku ?_; (case kN => k_asm); (case kC => (with_reducible_and_instances refine' junk_u ?U ?hp ?hc); (case U => intro _ _ _ _ _ _; k_upd); (case hp => assumption); (case hc => first | assumption | decide | omega)); (case kB => k_asm); (case kF => k_asm); (case kX => k_asm); (case kT => k_asm); (case kK => first | exact rfl | assumption); (case kd => ktr_room); (case ku => ktr_units)); intro TDj xj dj Dj κj r1 r2 r3 r4 r5 r6 r7 t1 t2 t3 t4 t5 t6 t7 st9 sd9 kk9 ta9 tb9 tc9 h9 tk9 hb9 hp9 l9 l9' l9'' a9 b9 F9 N9; (try dsimp only at N9); (try k_dflt (have z9 : ∀ p ∈ own9, p.1 ≠ dj := (fun p hp => Nat.ne_of_lt (a9 p (by repeat (first | exact hp | refine List.Mem.tail _ ?_)))))); (try k_lt a9); (try k_lt2 l9); (try k_lt2 l9'); (try k_lt2 l9''); (try simp only [LCg.Off1, and_true] at b9); (try dsimp only); (try k_sweep))
  k_with "call ref" => (k_here; (with_reducible show wpAny _ _ (PySem.call (Value.ref 278) _) _ _ _); (try dsimp only [List.nil_append, List.cons_append]); k_dflt (refine' useNum ?kC ?kB ?kF ?kX ?kN ?kT ?kK ?kd ?ku ?_; (case kN => k_asm); (case kC => (with_reducible_and_instances refine' number_u ?U ?hp ?hc ?h0 ?h1); (case U => intro _ _ _ _ _ _; k_upd); (case hp => assumption); (case hc => first | assumption | decide | omega); (case h0 => first | assumption | decide | omega); (case h1 => first | assumption | decide | omega)); (case kB => k_asm); (case kF => k_asm); (case kX => k_asm); (case kT => k_asm); (case kK => first | exact rfl | assumption); (case kd => ktr_room); (case ku => ktr_units)); intro r9 st9 sd9 kk9 t9 ta9 tb9 tc9 h9 tk9 p9 F9 N9; (try dsimp only at N9); (try dsimp only); (try k_sweep))
  k_with "call ref" => (k_here; (with_reducible show wpAny _ _ (PySem.call (Value.ref 124) _) _ _ _); (try dsimp only [List.nil_append, List.cons_append]); k_dflt (refine' useTold ?kC ?kB ?kF ?kX ?kN ?kT ?kK ?kd ?ku ?_; (case kN => k_asm); (case kC => (with_reducible_and_instances refine' told_c ?m1 ?m2); (case m1 => k_mem); (case m2 => k_mem)); (case kB => k_asm); (case kF => k_asm); (case kX => k_asm); (case kT => k_asm); (case kK => first | exact rfl | assumption); (case kd => ktr_room); (case ku => ktr_units)); intro T9 h9 tk9 a9 F9 N9; (try k_lt a9); (try dsimp only); (try k_sweep))
  k_with "call ref" => (k_here; (with_reducible show wpAny _ _ (PySem.call (Value.ref 59) _) _ _ _); (try dsimp only [List.nil_append, List.cons_append]); k_dflt (refine' useMach ?kC ?kB ?kF ?kX ?kN ?kT ?kK ?kd ?ku ?_; (case kN => k_asm); (case kC => (with_reducible_and_instances refine mach_c)); (case kB => k_asm); (case kF => k_asm); (case kX => k_asm); (case kT => k_asm); (case kK => first | exact rfl | assumption); (case kd => ktr_room); (case ku => ktr_units)); intro x9 tp9 D9 vs9 h9 tk9 q9 q9' F9 N9; (try dsimp only); (try k_sweep))
  k_with "call ref" => (k_here; (with_reducible show wpAny _ _ (PySem.call (Value.ref 314) _) _ _ _); (try dsimp only [List.nil_append, List.cons_append]); k_dflt (refine' useDeeds ?kC ?kB ?kF ?kX ?kN ?kT ?kK ?kd ?ku ?_; (case kN => k_asm); (case kC => (with_reducible_and_instances refine' deeds_u ?U ?c0 ?c1 ?c2 ?c3 ?hp ?hc); (case U => intro _ _ _ _ _ _; k_upd); (case hp => assumption); (case hc => first | assumption | decide | omega); (case c0 => first | assumption | decide | omega); (case c1 => first | assumption | decide | omega); (case c2 => first | assumption | decide | omega); (case c3 => first | assumption | decide | omega)); (case kB => k_asm); (case kF => k_asm); (case kX => k_asm); (case kT => k_asm); (case kK => first | exact rfl | assumption); (case kd => ktr_room); (case ku => ktr_units)); intro st9 sd9 kk9 ta9 tb9 tc9 h9 tk9 p9 F9 N9; (try dsimp only at N9); (try dsimp only); (try k_sweep))
  k_with "call ref" => (k_here; (with_reducible show wpAny _ _ (PySem.call (Value.ref 187) _) _ _ _); (try dsimp only [List.nil_append, List.cons_append]); k_dflt (refine' useR (cnumR_c ?hin) ?kB ?kF ?kX ?kN ?kT ?kK ?kd ?ku ?_; (case kN => k_asm); (case hin => first | assumption | exact near_of (n := 12) (by decide +kernel) rfl (by assumption) (by assumption)); (case kB => k_asm); (case kF => k_asm); (case kX => k_asm); (case kT => k_asm); (case kK => first | exact rfl | assumption); (case kd => ktr_room); (case ku => ktr_units)); intro e9 t9 ws9 G9 h9 tk9 FG9 R9 U9; (try dsimp only))
  k_with "call ref" => (k_here; (with_reducible show wpAny _ _ (PySem.call (Value.ref 159) _) _ _ _); (try dsimp only [List.nil_append, List.cons_append]); k_dflt (refine' useR (getR_c ?hin) ?kB ?kF ?kX ?kN ?kT ?kK ?kd ?ku ?_; (case kN => k_asm); (case hin => first | assumption | exact near_of (n := 12) (by decide +kernel) rfl (by assumption) (by assumption)); (case kB => k_asm); (case kF => k_asm); (case kX => k_asm); (case kT => k_asm); (case kK => first | exact rfl | assumption); (case kd => ktr_room); (case ku => ktr_units)); intro e9 t9 ws9 G9 h9 tk9 FG9 R9 U9; (try dsimp only))
  k_with "call ref" => (k_here; (with_reducible show wpAny _ _ (PySem.call (Value.ref 166) _) _ _ _); (try dsimp only [List.nil_append, List.cons_append]); k_dflt (refine' useR (putR_c ?hin) ?kB ?kF ?kX ?kN ?kT ?kK ?kd ?ku ?_; (case kN => k_asm); (case hin => first | assumption | exact near_of (n := 12) (by decide +kernel) rfl (by assumption) (by assumption)); (case kB => k_asm); (case kF => k_asm); (case kX => k_asm); (case kT => k_asm); (case kK => first | exact rfl | assumption); (case kd => ktr_room); (case ku => ktr_units)); intro e9 t9 ws9 G9 h9 tk9 FG9 R9 U9; (try dsimp only))
  k_with "call ref" => (k_here; (with_reducible show wpAny _ _ (PySem.call (Value.ref 201) _) _ _ _); (try dsimp only [List.nil_append, List.cons_append]); k_dflt (refine' useR (holdsR_c ?hin) ?kB ?kF ?kX ?kN ?kT ?kK ?kd ?ku ?_; (case kN => k_asm); (case hin => first | assumption | exact near_of (n := 12) (by decide +kernel) rfl (by assumption) (by assumption)); (case kB => k_asm); (case kF => k_asm); (case kX => k_asm); (case kT => k_asm); (case kK => first | exact rfl | assumption); (case kd => ktr_room); (case ku => ktr_units)); intro e9 t9 ws9 G9 h9 tk9 FG9 R9 U9; (try dsimp only))
  k_with "binaryOp FloorDiv int int" => (k_here; (with_reducible refine fdiv_pos ?fda ?fdb ?_); (case fda => first | assumption | decide); (case fdb => first | assumption | decide +kernel))
  k_with "binaryOp Mod int int" => (k_here; (with_reducible refine fmod_pos ?fma ?_); (case fma => first | assumption | decide))
  k_with "eval IfExp" => (k_here; with_reducible refine ifexp_int ?_)
  k_with "subscriptTail Name Constant ref int" => (k_here; (with_reducible show wpAny _ _ (subscriptTail _ _ (Value.ref _) (Value.int _ _)) _ _ _); k_dflt (refine' item_at ?iN ?im ?ia ?ib ?ix ?_ ?is; (case iN => k_asm); (case im => k_mem); (case ia => decide); (case ib => decide); (case ix => rfl); (case is => with_unfolding_all rfl); k_whole))
  k_with "subscriptTail" => (k_here; (with_reducible show wpAny _ _ (subscriptTail _ _ (Value.ref _) (Value.int (ite _ _ _) _)) _ _ _); k_dflt (refine' sub01 ?N ?m ?e ?_ ?s; (case N => k_asm); (case m => k_mem); (case e => assumption); (case s => with_unfolding_all rfl)); intro t9)
  k_with "call builtin:list.index" => (k_here; (with_reducible show wpAny _ _ (PySem.call (Value.builtin _) [Value.ref _, Value.str _ _]) _ _ _); k_dflt (refine' sindex ?N ?m ?i ?e ?z ?_; (case N => k_asm); (case m => k_mem); (case i => assumption); (case e => assumption); (case z => decide)))
  k_with "compareOp NotIn str ref" => (k_here; k_dflt (refine' notin_list_strs ?l ?i ?_; (case l => exact PySem.IsL.isList (n := 0) (News.get (by k_asm) (by k_mem))); (case i => assumption)))
  k_with "call builtin:str.split" => (k_here; (with_reducible show wpAny _ _ (PySem.call (Value.builtin "str.split") _) _ _ _); k_dflt (first | (refine KSpl.split1 (by k_asm) (by k_asm) (by decide) ?_ (by kspl_size)) | (refine KSpl.split0 (by k_asm) (by k_asm) ?_ (by kspl_size))); intro D' l' h' k' e' a' F' N' l1; (try k_lt l1); kspl_eval e'; rw [e'] at a'; (have s9 := strsAre_of_values l'); rw [a'] at s9)
  k_with "call builtin:str.split" => (k_here; (rename Txt.split _ _ = _ => hsp9); (with_reducible show wpAny _ _ (PySem.call (Value.builtin "str.split") _) _ _ _); k_dflt (refine KSpl.split1 (by k_asm) (by k_asm) (by decide) ?_ (by assumption)); intro D' l' h' k' e' a' F' N' l1; (try k_lt l1); rw [hsp9] at e')
  k_with "eval ListComp" => (k_here; (with_reducible show wpAny _ _ (PySem.eval (Expr.ListComp _ [⟨Expr.Tuple _ _ _, _, _, _⟩] _ _) _) _ _ _); k_dflt (refine' zip_comp (cl := []) ?a0 ?a1 ?a2 ?a3 ?a4 ?a5 ?a6 ?a7 ?a8 ?_ ?a9; (case a0 => k_asm); (case a1 => rfl); (case a2 => rfl); (case a3 => decide); (case a4 => rfl); (case a5 => decide); (case a6 => rfl); (case a7 => rfl); (case a8 => decide); (case a9 => intro _; rfl)))
  k_with "call type:zip" => (k_here; k_dflt (focus (refine' zip_strs ?z1 ?z2 ?z3 ?z4 ?z5 rows8 ?_ ?_; (case z1 => k_asm); (case z2 => k_asm); (case z3 => k_mem); (case z4 => k_mem); (case z5 => exact Nat.le_of_ble_eq_true rfl); (intro nm' t' c' p' q' hsp hnl; unfold ZTurn; intro s' R' C' oC' m' E' hC ha hb F' N'); rotate_left; (intro D' zs' h' tk' hz F' N' l1; (try k_lt l1)); rotate_right)))
  k_with "CompSrc" => (k_here; k_dflt (focus (refine LCg.CompSrc.range (by rfl) (by k_asm) (by k_asm) (by assumption) (by first | decide | rfl) (by first | rfl | decide) (by exact Nat.le_of_ble_eq_true rfl) ?_; intro g'; (refine' jk_rest ?j1 ?j2 ?j3 ?_ ?_; (case j1 => assumption); (case j2 => rfl); (case j3 => assumption); (intro c8 st8 sd8 kk8 ta8 tb8 tc8 v8 I' oI' C' oC' D' m' ys' h' tk' E' hp8 hc8 hC' hx' F' N' off' ne'; (have off8 := off'); (simp only [LCg.Off3] at off8); (obtain ⟨oa8, ob8, oc8⟩ := off8); (have off7 := off'); (clear off'); (with_reducible refine id ?_)); rotate_left; (intro r1 r2 r3 r4 r5 r6 r7 t1 t2 t3 t4 t5 t6 t7 st8 sd8 kk8 ta8 tb8 tc8 hb8 hp8); rotate_right))))
  k_with "CompEnd" => (k_here; (rename News _ _ _ _ => N8); (rename LCg.Off3 _ _ _ _ => o8); k_dflt (exact LCg.CompEnd.intro (by assumption) N8 _ (fun p hp => hp) o8 True.intro ⟨_, _, _, _, _, _, _, _, rfl, ⟨by assumption, by assumption⟩, by assumption, rfl⟩))
  k_with "call ref" => (k_here; (with_reducible show wpAny _ _ (PySem.call (Value.ref 176) _) _ _ _); (try dsimp only [List.nil_append, List.cons_append]); k_dflt (refine' call_cls ?k1 ?k2 ?k3 ?k4 ?k5 ?k6 ?_; (case k1 => k_asm); (case k2 => k_asm); (case k3 => k_asm); (case k4 => k_is); (case k5 => k_is); (case k6 => k_is); k_whole; intro x' d' h' F' N' l1 l2; (try k_lt l1); (try k_lt2 l2); (try k_sweep); (refine' code_def ?k1 ?k2 ?k3 ?k4 ?k5 ?kA ?kF ?kK ?k6 ?k7 ?k8 ?k9 ?kB ?_ ?c2 ?c3 ?c4 ?c5; (case kA => exact rfl); (case kF => exact rfl); (case kK => first | assumption | exact rfl); (case k1 => k_asm); (case k2 => k_asm); (case k3 => k_asm); (case k4 => k_asm); (case k5 => k_asm); (case k6 => k_is); (case k7 => k_is); (case k8 => ktr_room); (case k9 => exact BindsTo.of_eq rfl); (case c5 => decide); (case kB => exact locs rfl); (case c2 => exact rfl); (case c3 => exact rfl); (case c4 => exact rfl); k_whole; intro g' L' h' FG' F' N' B' X' T'; (try dsimp only); (try k_fold))))
  k_with "binaryOp LShift int int" => (k_here; (with_reducible refine shl_one ?kb1 ?kb2 ?_); (case kb1 => first | assumption | decide | omega); (case kb2 => first | assumption | decide | omega))
  k_with "compareOp NotEq int int" => (k_here; (with_reducible refine ne_self ?_))
  k_with "compareOp Eq int int" => (k_here; (with_reducible show wpAny _ _ (compareOp _ (Value.int (-1) _) _) _ _ _); with_reducible refine eq_m1 ?_)
  k_with "binaryOp Mult int int" => (k_here; (rename PInv _ _ => pI9); (have pI8 := pmul pI9 (by omega)); with_reducible refine mul_int ?_ pI8)
  k_with "getMethod" => (k_here; (with_reducible show wpAny _ _ (getMethod (Value.type "Exception") _ _) _ _ _); k_dflt (refine' method_type ?F ?X ?t ?s ?e ?q ?_; (case F => k_asm); (case X => k_asm); (case t => first | rfl | kernel_rfl); (case s => decide +kernel); (case e => k_is); (case q => rfl)))
  k_with "call builtin:Exception.__init__" => (k_here; k_dflt (refine' exc_init ?F ?N ?X ?U ?z ?_; (case F => k_asm); (case N => k_asm); (case X => k_asm); (case U => intro _; k_upd); (case z => exact Nat.le_of_ble_eq_true rfl)); intro tp9 h9 F9 N9 l9; (have q8 := fun p hp => Nat.ne_of_lt (l9 p (.tail _ (.tail _ hp)))); (try k_lt l9))
  k_with "setAttr ref" => (k_here; k_dflt (refine' x_set0 ?F ?N ?X ?U ?n ?e ?_; (case F => k_asm); (case N => k_asm); (case X => k_asm); (case U => intro _; k_upd); (case n => k_is); (case e => intro _; kernel_rfl); intro D9 h9 tk9 F9 N9 l9; (have q9 := fun p hp => Nat.ne_of_lt (l9 p (.tail _ (.tail _ (.tail _ hp))))); (try k_lt l9)))
  k_with "setAttr ref" => (k_here; (with_reducible show wpAny _ _ (setAttr _ _ Value.none) _ _ _); k_dflt (refine' x_set1 ?F ?N ?X ?m ?U ?n ?l ?z ?e ?_; (case F => k_asm); (case N => k_asm); (case X => k_asm); (case m => k_mem); (case e => intro _; kernel_rfl); (case U => intro _; k_upd); (case n => k_is); (case l => rfl); (case z => exact Nat.le_of_ble_eq_true rfl); intro h9 tk9 F9 N9))
  k_with "exec Raise some none" => (k_here; k_dflt (refine' raise59 ?hh ?_; (case hh => rfl)))
  k_with "RaiseBack" => (k_here; k_dflt (refine ⟨_, _, _, _, rfl, Frag.In.keeps (by assumption) (Fr.keep (by k_asm)) _ _ rfl, (News.get (by k_asm) (.head _)), rfl, ?_⟩))
  k_with "execs cons" => (k_here; (with_reducible show wpAny _ _ (execs (Stmt.Assign _ _ ⟨208, _, _, _⟩ :: _) _) _ _ _); clear M208; (rename News _ _ _ _ => N9); k_dflt (have N8 := keep4 (a := xj) (b := dj) (c := Dj) (d := pa) N9 (by k_mem) (by k_mem) (by k_mem) (by k_mem)); clear N9; walk_say "CUT208")
  k_with "execs cons" => (k_here; (with_reducible show wpAny _ _ (execs (Stmt.Assign _ _ ⟨211, _, _, _⟩ :: _) _) _ _ _); clear M211; (rename News _ _ _ _ => N9); k_dflt (have N8 := keep4 (a := xj) (b := dj) (c := Dj) (d := pa) N9 (by k_mem) (by k_mem) (by k_mem) (by k_mem)); clear N9; walk_say "CUT211")
  k_with "execs cons" => (k_here; (with_reducible show wpAny _ _ (execs (Stmt.For _ _ _ _ ⟨214, _, _, _⟩ :: _) _) _ _ _); clear M214; (generalize Dd = Dk at *); (rename News _ _ _ _ => N9); k_dflt (have N8 := keep4 (a := xj) (b := dj) (c := Dj) (d := pa) N9 (by k_mem) (by k_mem) (by k_mem) (by k_mem)); k_dflt (replace N8 := keep1 (a := Dk) N9 N8 (by k_mem)); clear N9; walk_say "CUT214")
  k_with "execs cons" => (k_here; (with_reducible show wpAny _ _ (execs (Stmt.If _ _ _ ⟨218, _, _, _⟩ :: _) _) _ _ _); clear M218; (rename News _ _ _ _ => N9); k_dflt (have N8 := keep4 (a := xj) (b := dj) (c := Dj) (d := pa) N9 (by k_mem) (by k_mem) (by k_mem) (by k_mem)); k_dflt (replace N8 := keep1 (a := Dk) N9 N8 (by k_mem)); k_dflt (replace N8 := keep1 (a := Dd) N9 N8 (by k_mem)); clear N9; walk_say "CUT218")
  k_with "execs cons" => (k_here; (with_reducible show wpAny _ _ (execs (Stmt.Assign _ _ ⟨220, _, _, _⟩ :: _) _) _ _ _); clear M220; (rename News _ _ _ _ => N9); k_dflt (have N8 := keep4 (a := xj) (b := dj) (c := Dj) (d := pa) N9 (by k_mem) (by k_mem) (by k_mem) (by k_mem)); clear N9; walk_say "CUT220")
  k_with "execs cons" => (k_here; (with_reducible show wpAny _ _ (execs (Stmt.Assign _ _ ⟨223, _, _, _⟩ :: _) _) _ _ _); clear M223; (rename News _ _ _ _ => N9); k_dflt (have N8 := keep4 (a := xj) (b := dj) (c := Dj) (d := pa) N9 (by k_mem) (by k_mem) (by k_mem) (by k_mem)); k_dflt (replace N8 := keep1 (a := Dd) N9 N8 (by k_mem)); clear N9; walk_say "CUT223")
  trivial
end Mine
namespace Mine
theorem menu4 {prog : Program} {w : World} {A : Around} {E : Value → Shared → Prop} {s : Shared} {h₀ : Heap} {L D : Addr} {news : Led} {k : Int} {u a b c d : Tok} {n : Nat} {value slice : PySem.Expr} {Q : Value → Shared → Prop} (N : News h₀ L s.heap news) (hm : (D, listOf #[.int 8 a, .int 16 b, .int 32 c, .int 64 d] n) ∈ news)
    (h0 : 0 ≤ k) (h1 : k < 4) (h : ∀ z t, 1 ≤ z ∧ z ≤ 64 → Q (.int z t) s)
    (hs : subscripted slice false (.ref D) (.int k u) = operate [.ref D, .int k u] (getItem (.ref D) (.int k u)) := by with_unfolding_all rfl) :
    wpAny (model prog w) A (subscriptTail value slice (.ref D) (.int k u)) Q E s := by
  obtain h | h | h | h : k = 0 ∨ k = 1 ∨ k = 2 ∨ k = 3 := by omega
  all_goals subst h
  · exact item_at N hm (by decide) (by decide) rfl (h _ _ (by decide)) hs
  · exact item_at N hm (by decide) (by decide) rfl (h _ _ (by decide)) hs
  · exact item_at N hm (by decide) (by decide) rfl (h _ _ (by decide)) hs
  · exact item_at N hm (by decide) (by decide) rfl (h _ _ (by decide)) hs
theorem turn_end {h₀ : Heap} {L P c1 c2 : Addr} {vz vw : Value} {o1 oc tab : Obj} {c c' : Int} {own news' : Led} {s₁ : Shared} {Q : Flow → Shared → Prop} {h' : Heap} {tk : Nat} {m' : Str → Option Value} {st sd kk : Int} {ta tb tc : Tok} {v0 : Option Value}
    (F : Fr h₀ L h' m') (N : News h₀ L h' news') (a1 : (P, penO st sd kk ta tb tc) ∈ news') (a2 : (c2, o1) ∈ news') (a3 : (c1, oc) ∈ news') (a4 : (323, tab) ∈ news') (ho : ∀ p ∈ own, p ∈ news') (hp : PenOk c' st sd kk) (hc : c' ≤ c) (hoc : oc.data = .cell v0)
    (b1 : m' (Str.ofString "pen") = some (.ref P)) (b2 : m' (Str.ofString "size") = some vz) (b3 : m' (Str.ofString "wheel") = some vw) : TurnPost h₀ L P c1 c2 vz vw o1 tab c own s₁ Q .next { s₁ with heap := h', toks := tk } :=
  ⟨h', tk, m', news', st, sd, kk, ta, tb, tc, oc, v0, rfl, F, N, pen_mono hp hc, hoc, a1, a2, a3, a4, ho, b1, b2, b3⟩
theorem look_elim {K : Frag} {a : Addr} {o o' : Obj} {G : Prop} (e' : K.lookup a = some o') (e : K.lookup a = some o) (h : o' = o → G) : G := h (Option.some.inj (e'.symm.trans e))
theorem ht_holds {prog : Program} {w : World} {A : Around} {h₀ : Heap} {L : Addr} {m : Str → Option Value} {env : Env} {ct elt : PySem.Expr} {x : Str} {scope : Scope} {cl : List (Str × Addr)} {s : Shared} {S : Led → Prop} {Fin : List Value → Led → Prop} {news : Led} {fd : Addr} {κ : KT} {cf pf af zf sf of df : Int} {t1 t2 t3 t4 t5 t6 t7 : Tok} {n : Nat} {vs : List Value}
    (hm2 : (fd, flagsD w κ cf pf af zf sf of df t1 t2 t3 t4 t5 t6 t7) ∈ news) (hv : StrsAre vs names16) (hn : n = vs.length)
    (turn : ∀ nm t I oI C oC D m₂ ys h tk (E' : Value → Shared → Prop), nm ∈ names16 → LCg.NsObj oC m₂ → m₂ x = some (.str nm t) → Fr h₀ L h m → News h₀ L h ((I, oI) :: (C, oC) :: (D, LCg.lst ys) :: news) → LCg.Off3 I C D news → ((@Ne Nat I C) ∧ (@Ne Nat I D) ∧ (@Ne Nat C D)) →
      wpAny (model prog w) A (isTrue ct (compEnvC scope cl C env) (eval ct (compEnvC scope cl C env))) (fun b s' => if b = true then wpAny (model prog w) A (eval elt (compEnvC scope cl C env)) (LCg.CompEnd h₀ L m { s with heap := h, toks := tk } I oI C oC D (LCg.lst ys) S (fun y news' => HEl news (fun nm => hspec (names16.idxOf nm : Nat) cf pf zf sf of) nm y news')) E' s'
        else LCg.CompEnd h₀ L m { s with heap := h, toks := tk } I oI C oC D (LCg.lst ys) S (fun _ news' => HNo news (fun nm => hspec (names16.idxOf nm : Nat) cf pf zf sf of) nm news') Value.none s') E' { s with heap := h, toks := tk })
    (fin : ∀ ys, StrsAre ys (names16.filter (fun nm => hspec (names16.idxOf nm : Nat) cf pf zf sf of)) → Fin ys news) : LCt.CompRestT prog w A h₀ L m env ct elt x scope cl s S (fun i v => vs.toArray[i]? = some v) Fin n 0 [] news :=
  ht_rest _ hv hn turn fin
theorem pick_same {x y W H : Int} (hW : W = 2 * H) (hH : 0 < H) (x0 : 0 ≤ x) (x1 : x < W) (y0 : 0 ≤ y) (y1 : y < W) :
    names16.filter (fun nm => hspec (names16.idxOf nm : Nat) (dC x y 0 W (-1)) (even8 (dR x y 0 W (-1))) (dZ (dR x y 0 W (-1))) (dS (dR x y 0 W (-1)) W) (dO x y 0 W (-1))) = pickL (condB x y W) pq8 := by
  rw [filt_pick, cond_flags hW hH x0 x1 y0 y1 rfl rfl rfl rfl rfl]
theorem rowsL : True := by
  k_with "call ref" => (k_here; (with_reducible show wpAny _ _ (PySem.call (Value.ref 264) _) _ _ _); (try dsimp only [List.nil_append, List.cons_append]); k_dflt (refine' usePen (pen_c ?w1xi ?w1xn) ?kB ?kF ?kX ?kN ?kT ?w1xl ?kK ?kd ?ku ?_; (case kN => k_asm); (case w1xi => assumption); (case w1xn => assumption); (case kB => k_asm); (case kF => k_asm); (case kX => k_asm); (case kT => k_asm); (case w1xl => assumption); (case kK => first | exact rfl | assumption); (case kd => ktr_room); (case ku => ktr_units)); intro P9a st9 ta9 tb9 tc9 h9 tk9 p9 b9 F9 N9; (try k_lt b9); (try dsimp only); (try k_sweep))
  k_with "subscriptTail" => (k_here; (with_reducible show wpAny _ _ (subscriptTail _ _ (Value.ref _) (Value.int _ _)) _ _ _); k_dflt (refine' menu4 ?w2xN ?w2xm ?w2xa ?w2xb ?_ ?w2xs; (case w2xN => k_asm); (case w2xm => k_mem); (case w2xa => assumption); (case w2xb => assumption); (case w2xs => with_unfolding_all rfl)); intro z9 t9 hz9z; (have hw9 := kbt_pos (Int.toNat z9)))
  k_with "exec For Name Call cons nil" => (k_here; (rename Fr _ _ _ _ => lF'); (with_unfolding_all refine' For_invVF lF' ?k1 ?k2 ?_; (case k1 => exact rfl); (case k2 => exact rfl); k_whole))
  k_with "pyIter ref" => (k_here; (rename News _ _ _ _ => N9); (rename IsRange _ _ _ _ _ _ _ _ => rgX); k_dflt (refine' loop_law ?w5xh rgX ?w5xF N9 ?w5xs ?w5xp ?w5xo ?w5xm1 ?w5xm2 ?w5xm3 ?_ ?_; (case w5xh => exact rfl); (case w5xF => k_asm); (case w5xs => exact fun p hp => List.Mem.tail _ hp); (case w5xp => exact pen_mono (by assumption) (by decide)); (case w5xo => assumption); (case w5xm1 => exact rfl); (case w5xm2 => exact rfl); (case w5xm3 => exact rfl)); (focus (intro c9 k9 t9 m9 st9 sd9 kk9 ta9 tb9 tc9 oc9 v9 own9 h9 tk9 hc0 hc1 hp9 ho9 q1 q2 q3 q4 F9 N9)); rotate_left; (focus (intro m9 st9 sd9 kk9 ta9 tb9 tc9 oc9 v9 h9 tk9 hp9 ho9 F9 N9)); rotate_right)
  k_with "TurnPost" => (k_dflt (refine' turn_end ?w6xF ?w6xN ?w6xa1 ?w6xa2 ?w6xa3 ?w6xa4 ?w6xo ?w6xp ?w6xc ?w6xoc ?w6xb1 ?w6xb2 ?w6xb3; (case w6xF => k_asm); (case w6xN => k_asm); (case w6xa1 => k_mem); (case w6xa2 => k_mem); (case w6xa3 => k_mem); (case w6xa4 => k_mem); (case w6xo => exact fun p hp => by repeat (first | exact hp | refine List.Mem.tail _ ?_)); (case w6xp => assumption); (case w6xc => omega); (case w6xoc => assumption); (case w6xb1 => with_unfolding_all rfl); (case w6xb2 => with_unfolding_all rfl); (case w6xb3 => with_unfolding_all rfl)))
  k_with "CompSrcT" => (k_here; k_dflt (focus (refine LCt.CompSrcT.ledger (by rfl) (by k_asm) (by k_asm) (by k_mem) (by exact Nat.le_of_ble_eq_true rfl) ?_; intro g'; (refine' ht_holds (fd := dj) ?w7xm ?w7xv ?w7xn ?_ ?_; (case w7xm => k_mem); (case w7xv => assumption); (case w7xn => rfl)); (intro nm8 t8 I8 oI8 C8 oC8 D8 m8 ys8 h8 tk8 E8 hm8 hC8 hx8 F8 N8 off7 ne8; (have off8 := off7); (simp only [LCg.Off3] at off8); (obtain ⟨oa8, ob8, oc8⟩ := off8); (with_reducible refine id ?_)); rotate_left; (intro ys8 hy8); rotate_right)))
  k_with "CompEnd" => (k_here; (rename News _ _ _ _ => N8); (rename LCg.Off3 _ _ _ _ => o8); k_dflt (first | exact LCg.CompEnd.intro (by assumption) N8 _ (fun p hp => hp) o8 (Or.inr ⟨_, .head _, rfl, _, rfl⟩) ⟨by assumption, rfl, _, rfl⟩ | exact LCg.CompEnd.intro (by assumption) N8 _ (fun p hp => hp) o8 (Or.inr ⟨_, .head _, rfl, _, rfl⟩) ⟨by assumption, rfl⟩))
  k_with "compareOp NotEq ref ref" => (k_here; (with_reducible show wpAny _ _ (compareOp CmpOp.NotEq (Value.ref _) (Value.ref _)) _ _ _); k_dflt (refine' ne_strs ?w9xN ?w9xm ?w9xn hy8 hz9 ?w9xe ?w9xo ?w9xu ?_; (case w9xN => k_asm); (case w9xm => k_mem); (case w9xn => k_mem); (case w9xe => exact pick_same (wh (And.left hz9z)) (kbt_pos _) (Int.emod_nonneg _ (Int.ne_of_gt (kbt_pos _))) (Int.emod_lt_of_pos _ (kbt_pos _)) (Int.emod_nonneg _ (Int.ne_of_gt (kbt_pos _))) (Int.emod_lt_of_pos _ (kbt_pos _))); (case w9xo => exact pickL_ok _ _ (by decide +kernel)); (case w9xu => first | ktr_units | units_room)))
  k_with "call ref" => (k_here; (with_reducible show wpAny _ _ (PySem.call (Value.ref 321) _) _ _ _); (try dsimp only [List.nil_append, List.cons_append]); k_dflt (refine' useL (refused_l (d := 8) ?_ ?v1l) ?kB ?kF ?kX ?kN ?kT ?v1x ?v1t ?kK ?kd ?ku ?_; (case kN => k_asm); (case v1l => k_mem); (case kB => k_asm); (case kF => k_asm); (case kX => k_asm); (case kT => k_asm); (case v1x => assumption); (case v1t => assumption); (case kK => first | exact rfl | assumption); (case kd => ktr_room); (case ku => ktr_units)); (focus (unfold RCtr; intro p8 loose8 mean8 mg8 mb8 dp8 un8 gd8 cn8 cs8 a8 ccd8 cl8 outer8 A8 base8 h08 L8 m8 s8 Q8 E8 B8 F8 X8 N8 T8 hk8 hd8 hu8 hret8; refine wpAny_call ?_; k_dflt (refine' kla_code ?k1 ?k2 ?k3 ?k4 ?k5 ?kA ?kF ?kK ?k6 ?k7 ?k8 ?k9 ?kB ?_ ?c2 ?c3 ?c4 ?c5; (case kA => exact rfl); (case kF => exact rfl); (case kK => first | assumption | exact rfl); (case k1 => k_asm); (case k2 => k_asm); (case k3 => k_asm); (case k4 => k_asm); (case k5 => k_asm); (case k6 => k_mem); (case k7 => exact codeRec_news (by k_asm) (by k_mem) (by assumption) (by assumption)); (case k8 => ktr_room); (case k9 => exact rfl); (case c5 => decide); (case kB => exact locs rfl); (case c2 => exact rfl); (case c3 => exact rfl); (case c4 => exact rfl); k_whole; intro g' L' h' FG' F' N' B' X' T'; (try dsimp only); (try k_fold)))); rotate_left; (focus (intro h9 tk9 F9 N9; (try dsimp only))); rotate_right)
  k_with "leaving ref" => (k_here; k_dflt (refine' leave_more ?v2K ?v2F R9 U9 rfl ?v2n ?_; (case v2K => assumption); (case v2F => exact FG9); (case v2n => exact fun p hp => ((by k_asm : News _ _ _ _) p hp).2.2); (intro h7 R7 U7; exact hret8 _ _ _ _ _ _ (by assumption) R7 U7)))
  trivial
theorem law_walk {w : World} {p : Program} {loose : List Str} {mean : ExcName → Option Value} {mg mb : Str → Option Value} {g0 : Heap} {L af : Addr} {s : Shared} {l : Addr} {vs : List Value} {ns : List Int} {o1 o2 : Obj} {name qual : Str} {params : Arguments} {body : List Stmt} {scope : Scope} {cl : List (Str × Addr)} {dV kV doc pm cdv ct oc : Value} {an od : Option Addr} {osl : Array (Option Value)} {Q : Flow → Shared → Prop} {Qe Ee : Value → Shared → Prop}
    (hlook : (Mine.mk.heap_1 w.params).lookup 326 = some ⟨oc, od, .func (fnX name qual params body scope cl dV kV doc pm an cdv ct), osl⟩)
    (X : (Mine.mk.heap_1 w.params).In g0) (T : Top p loose mean mg mb g0) (B : Below callerA g0 [] g0) (F : Fr g0 L s.heap (fun y => if y = Str.ofString "script" then some (.ref l) else none)) (hl : g0.IsList l vs.toArray) (hi : IntsAre vs ns) (hn : ns.length ≤ 63)
    (hc : CodeHd g0 325 323) (hlt : @LT.lt Nat _ 323 L) (N : News g0 L s.heap [(L + 1 + 1, o1), (L + 1, o2), (323, tabObj #[])]) (ho1 : o1.data = .cell none) (ho2 : o2.data = .cell none)
    (hret : ∀ h' tk' m' ps nw, Fr g0 L h' m' → News g0 L h' nw → (323, tabObj ps) ∈ nw → Q (.ret (.bool true)) { s with heap := h', toks := tk' }) :
    wpAny (model PySem.Challenge.rw_pq0794_01.row.prog w) (callerA.deeper (envOfC qual scope L af cdv)) (execs body (envOfC qual scope L af cdv)) Q (fun e s' => wpAny (model PySem.Challenge.rw_pq0794_01.row.prog w) (callerA.deeper (envOfC qual scope L af cdv)) (leaving (envOfC qual scope L af cdv) e) (fun _ s'' => Qe e s'') Ee s') s := by
  revert hlook X
  k_fill
  intro hlook X
  refine' look_elim ?k hlook ?_
  case k => k_is
  intro e
  cases e
  clear hlook
  k_steps
  all_goals exact hret _ _ _ _ _ (by k_asm) (by k_asm) (by k_mem)
end Mine
namespace Mine
theorem rowsNone : True := by
  k_with_none
  trivial
end Mine
end
def Mine.hh.tw14400246951197632 : Unit := ()
def Mine.hh.tw10637647289669697832 : Unit := ()
def Mine.hh.tw3964912962411453696 : Unit := ()
def Mine.hh.tw10595815391818219475 : Unit := ()
def Mine.hh.tw10734016200642157356 : Unit := ()
def Mine.hh.tw1871125161416433803 : Unit := ()
def Mine.hh.tw16839391653828382962 : Unit := ()
def Mine.hh.tw2459442350927665728 : Unit := ()
def Mine.hh.tw6805284888968958880 : Unit := ()
def Mine.hh.tw266813991373745286 : Unit := ()
def Mine.hh.tw14597645059949976887 : Unit := ()
def Mine.hh.tw10636339496290893954 : Unit := ()
def Mine.hh.tw16046298058077285625 : Unit := ()
def Mine.hh.tw15479385183676940890 : Unit := ()
def Mine.hh.tw11378865577618698131 : Unit := ()
def Mine.hh.tw13502098933423262481 : Unit := ()
def Mine.hh.tw9852673220664509879 : Unit := ()
def Mine.hh.tw10074376128390751833 : Unit := ()
def Mine.hh.tw3194027373920895554 : Unit := ()
def Mine.hh.tw16085450171495119125 : Unit := ()
def Mine.hh.tw9210140950617183740 : Unit := ()
def Mine.hh.tw15143561512518849039 : Unit := ()
def Mine.hh.tw3535913324706502710 : Unit := ()
def Mine.hh.tw10658199920659783632 : Unit := ()
def Mine.hh.tw8185113053455550745 : Unit := ()
def Mine.hh.tw13800018164621449340 : Unit := ()
def Mine.hh.tw12478951231512741053 : Unit := ()
def Mine.hh.tw8267467106865475698 : Unit := ()
def Mine.hh.tw11166578392700057276 : Unit := ()
def Mine.hh.tw3238959177522175766 : Unit := ()
def Mine.hh.tw7211504493510545287 : Unit := ()
def Mine.hh.tw16144539858081032063 : Unit := ()
def Mine.hh.tw17405173698549576991 : Unit := ()
def Mine.hh.tw12546130235975709503 : Unit := ()
def Mine.hh.tw7125174457207920437 : Unit := ()
def Mine.hh.tw7005831491926615034 : Unit := ()
def Mine.hh.tw17801122836952578174 : Unit := ()
def Mine.hh.tw12925098446171629511 : Unit := ()
def Mine.hh.tw5653734207466896944 : Unit := ()
def Mine.hh.tw12157689632829044395 : Unit := ()
def Mine.hh.tw13406377399223220565 : Unit := ()
def Mine.hh.tw10876381789015053565 : Unit := ()
def Mine.hh.tw689009396329591479 : Unit := ()
def Mine.hh.tw6965947031293188742 : Unit := ()
def Mine.hh.tw2123999689836369147 : Unit := ()
def Mine.hh.tw12602126253249276885 : Unit := ()
def Mine.hh.tw2001792062413262583 : Unit := ()
def Mine.hh.tw5747718024417660517 : Unit := ()
def Mine.hh.tw9321287389764934517 : Unit := ()
def Mine.hh.tw10299437914898480421 : Unit := ()
def Mine.hh.tw11535240397644645640 : Unit := ()
def Mine.hh.tw16876966284035172044 : Unit := ()
def Mine.hh.tw6906923952978972191 : Unit := ()
def Mine.hh.tw1735851123484192399 : Unit := ()
def Mine.hh.tw3853818042504564080 : Unit := ()
def Mine.hh.tw18177232505735474496 : Unit := ()
def Mine.hh.tw2649480160373114606 : Unit := ()
def Mine.hh.tw15498473079470569645 : Unit := ()
def Mine.hh.tw4318405155608919269 : Unit := ()
def Mine.hh.tw15456029636562868922 : Unit := ()
def Mine.hh.tw17776274375581186175 : Unit := ()
def Mine.hh.tw4212238582512458583 : Unit := ()
def Mine.hh.tw2658976548185465209 : Unit := ()
def Mine.hh.tw16013035956490930176 : Unit := ()
def Mine.hh.tw17928187338540222696 : Unit := ()
def Mine.hh.tw6347161293280843659 : Unit := ()
def Mine.hh.tw1282402263997190176 : Unit := ()
def Mine.hh.tw3738406723728455721 : Unit := ()
def Mine.hh.tw14996542813961884989 : Unit := ()
def Mine.hh.tw15773541848570781940 : Unit := ()
def Mine.hh.tw3919029731781941070 : Unit := ()
def Mine.hh.tw11770063087502300213 : Unit := ()
def Mine.hh.tw5739981289166950890 : Unit := ()
def Mine.hh.tw12786249114640296416 : Unit := ()
def Mine.hh.tw14331143573219074617 : Unit := ()
def Mine.hh.tw4458256277972588433 : Unit := ()
def Mine.hh.tw1017229829318846632 : Unit := ()
def Mine.hh.tw5059013774621906906 : Unit := ()
def Mine.hh.tw2577530316877179572 : Unit := ()
def Mine.hh.tw2428258432728476606 : Unit := ()
def Mine.hh.tw11326489689991583123 : Unit := ()
def Mine.hh.tw244273418378961958 : Unit := ()
def Mine.hh.tw2376296136047037586 : Unit := ()
def Mine.hh.tw13974806444649870101 : Unit := ()
def Mine.hh.tw576321288800662404 : Unit := ()
def Mine.hh.tw2282500604199002764 : Unit := ()
def Mine.hh.tw1757899234621435148 : Unit := ()
def Mine.hh.tw11983937008014378988 : Unit := ()
def Mine.hh.tw15775006850799713631 : Unit := ()
def Mine.hh.tw6091331957022990973 : Unit := ()
def Mine.hh.tw1395823903252169493 : Unit := ()
def Mine.hh.tw1128323713081136122 : Unit := ()
def Mine.hh.tw15742027020496361574 : Unit := ()
def Mine.hh.tw16994107624064292525 : Unit := ()
def Mine.hh.tw9995269102713502443 : Unit := ()
def Mine.hh.tw1731959658521507187 : Unit := ()
def Mine.hh.tw8486029173102831156 : Unit := ()
set_option Elab.async true
theorem Mine.hh : PySem.Challenge.rw_pq0794_01.Holds := by
  w_on
  o_law
  o_head (kmHook Mine.mk.heap_1 [2, 3, 15, 17, 18, 20, 21, 22, 29, 30, 32, 33, 35, 36, 37, 39, 40, 42, 43, 44, 45, 46, 47, 50, 57, 58, 59, 62, 64, 65, 67, 68, 69, 71, 72, 74, 75, 76, 78, 79, 81, 82, 83, 85, 86, 88, 89, 90, 92, 93, 95, 96, 97, 99, 100, 102, 103, 111, 113, 114, 116, 117, 118, 120, 121, 123, 124, 125, 127, 128, 130, 131, 132, 134, 135, 137, 138, 139, 141, 142, 144, 145, 146, 148, 149, 151, 152, 153, 155, 156, 158, 159, 160, 162, 163, 165, 166, 167, 169, 170, 172, 173, 174, 175, 176, 177, 178, 181, 183, 184, 186, 187, 188, 190, 191, 193, 194, 195, 197, 198, 200, 201, 202, 204, 205, 207, 208, 209, 211, 212, 214, 215, 216, 218, 219, 221, 222, 223, 225, 226, 228, 229, 230, 232, 233, 235, 236, 237, 239, 240, 242, 243, 244, 246, 247, 249, 250, 251, 253, 254, 256, 257, 258, 260, 261, 263, 264, 265, 267, 268, 270, 271, 272, 274, 275, 277, 278, 279, 281, 282, 284, 285, 286, 289, 290, 291, 293, 294, 296, 297, 298, 301, 302, 303, 306, 307, 308, 310, 311, 313, 314, 315, 317, 318, 320, 321, 322, 325, 326] (fun _ => by kernel_rfl) [323])
  (case hw => w_witness2)
  w_strict (k_go0; all_goals (
    (refine' Mine.law_walk ?lwzhlook ?lwzX ?lwzT ?lwzB ?lwzF ?lwzhl ?lwzhi ?lwzhn ?lwzhc ?lwzhlt ?lwzN ?lwzho1 ?lwzho2 ?lwzhret)
    (case lwzF => with_unfolding_all assumption)
    (case lwzN => with_unfolding_all assumption)
    (case lwzX => assumption)
    (case lwzT => assumption)
    (case lwzB => assumption)
    (case lwzhl => assumption)
    (case lwzhi => assumption)
    (case lwzhn => omega)
    (case lwzhc => assumption)
    (case lwzhlt => assumption)
    (case lwzho1 => with_unfolding_all assumption)
    (case lwzho2 => with_unfolding_all assumption)
    (case lwzhlook => k_is)
    (case lwzhret =>
      intro h' tk' m' ps nw F' N' hm
      (try dsimp only)
      k_steps)))
theorem PySem.Challenge.cw_pq0794_01_holds : PySem.Challenge.rw_pq0794_01.Holds := by
  exact Mine.hh
