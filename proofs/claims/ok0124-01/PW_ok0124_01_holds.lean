import PyProof.Rows.All
import Wide.All
import OpenK.AllK
import Wide.FinOn
import PyProof.ExcInit
import PyProof.ExcBaseAll.Exception
import PyProof.InstStoreFacts
import Lean
import PySem.Challenge.RW_ok0124_01
set_option Elab.async false
set_option rowWalk.seconds 0
set_option compiler.extract_closed false
section
open PySem PySem.W PyProof.Rows PySem.Calls
namespace Mine
def qq : Program := { PySem.Challenge.pw_ok0124_01 with main := { PySem.Challenge.pw_ok0124_01.main with body := [1, 2, 3, 5, 6, 7, 8, 9, 10, 11, 12, 14, 15, 17, 18, 19, 20, 21, 22, 23, 24, 25, 26, 27, 28, 29, 30].filterMap fun i => PySem.Challenge.pw_ok0124_01.main.body[i]? } }
section
set_option hygiene false in
local macro_rules | `(tactic| o_head $H) => `(tactic| (refine holds_open (q := Mine.qq) (loose := [PySem.Str.ofString "_law_blank"]) (Xt := fun s => xlAt Mine.qq [] s && recOk (RowW.records PySem.Challenge.rw_ok0124_01.row.toRowW) s) (XP := XL Mine.qq []) (Yf := Hook.obs $H) (Ya := Hook.val $H) (YP := Hook.says $H) (N := 2816) ?hl (Hook.of $H) (Hook.keeps $H) (fun s e => xl_of s (Bool.and_eq_true_iff.mp e).1) XL.keeps (by rfl) (by rfl) (by rfl) (fun s e => recFacts_of (Bool.and_eq_true_iff.mp e).2) (by rfl) (by first | assumption | decide +kernel) (by decide +kernel) ⟨rfl, rfl, rfl, rfl, rfl, by decide +kernel⟩ ?hw ?hc; case hl => exact fun w => by kernel_rfl))
set_option maxRecDepth 100000 in
set_option maxHeartbeats 8000000 in
open_top hd for PySem.Challenge.rw_ok0124_01
end
local macro_rules | `(tactic| walk_at "rm") => `(tactic| first | ((try simp only [depth_under_make, depth_under_kw, depth_in1, depth_deeper, depth_caller]); (try dsimp only [ktrTop]); omega) | ktr_room)
local macro_rules | `(tactic| walk_at "un") => `(tactic| first | ((try simp only [units_in1, units_deeper, Around.mark_units, units_caller]); (try dsimp only [ktrTop]); omega) | ktr_units)
section
open PySem PySem.W PyProof.Rows PySem.Calls
set_option maxRecDepth 100000
theorem noE {α : Type} {M : Model} {A : Around} {t : Sem α} {Q : α → Shared → Prop} {E : Value → Shared → Prop} {s : Shared} (h : wpAny M A t Q (fun _ _ => False) s) : wpAny M A t Q E s := wpAny_mono h (fun _ _ h => h) (fun _ _ h => h.elim)
def Imp (P Q : Flow → Shared → Prop) : Prop := ∀ f s, P f s → Q f s
def restQ (M : Model) (A : Around) (rest : List Stmt) (env : Env) (Q : Flow → Shared → Prop) (E : Value → Shared → Prop) : Flow → Shared → Prop := fun fl s => match fl with | .next => wpAny M A (execs rest env) Q E s | f => Q f s
theorem execs_abs {M : Model} {A : Around} {st : Stmt} {rest : List Stmt} {env : Env} {Q : Flow → Shared → Prop} {E : Value → Shared → Prop} {s : Shared} (h : ∀ Q', Imp (restQ M A rest env Q E) Q' → wpAny M A (exec st env) Q' E s) : wpAny M A (execs (st :: rest) env) Q E s :=
  wpAny_execs_cons (wpAny_mono (h _ fun _ _ h => h) (fun f s h => by cases f <;> exact h) (fun _ _ h => h))
theorem execs_one {M : Model} {A : Around} {st : Stmt} {env : Env} {Q : Flow → Shared → Prop} {E : Value → Shared → Prop} {s : Shared} (h : wpAny M A (exec st env) Q E s) : wpAny M A (execs [st] env) Q E s :=
  wpAny_execs_cons (wpAny_mono h (fun f s h => by cases f <;> first | exact wpAny_execs_nil h | exact h) (fun _ _ h => h))
theorem abs_next {M : Model} {A : Around} {rest : List Stmt} {env : Env} {Q Q' : Flow → Shared → Prop} {E : Value → Shared → Prop} {s : Shared} (i : Imp (restQ M A rest env Q E) Q') (h : wpAny M A (execs rest env) Q E s) : Q' .next s := i _ _ h
theorem abs_ret {M : Model} {A : Around} {rest : List Stmt} {env : Env} {Q Q' : Flow → Shared → Prop} {E : Value → Shared → Prop} {s : Shared} {v : Value} (i : Imp (restQ M A rest env Q E) Q') (h : Q (.ret v) s) : Q' (.ret v) s := i _ _ h
theorem abs_brk {M : Model} {A : Around} {rest : List Stmt} {env : Env} {Q Q' : Flow → Shared → Prop} {E : Value → Shared → Prop} {s : Shared} (i : Imp (restQ M A rest env Q E) Q') (h : Q .brk s) : Q' .brk s := i _ _ h
theorem abs_cont {M : Model} {A : Around} {rest : List Stmt} {env : Env} {Q Q' : Flow → Shared → Prop} {E : Value → Shared → Prop} {s : Shared} (i : Imp (restQ M A rest env Q E) Q') (h : Q .cont s) : Q' .cont s := i _ _ h
theorem withEq {α : Sort _} (a : α) {G : Prop} (k : ∀ x, x = a → G) : G := k a rfl
def ImpQ {α : Type} (P Q : α → Shared → Prop) : Prop := ∀ f s, P f s → Q f s
theorem absQ {α : Type} {M : Model} {A : Around} {t : Sem α} {Q : α → Shared → Prop} {E : Value → Shared → Prop} {s : Shared} (h : ∀ Q', ImpQ Q Q' → wpAny M A t Q' E s) : wpAny M A t Q E s := h Q fun _ _ h => h
theorem absQ_go {α : Type} {Q Q' : α → Shared → Prop} {v : α} {s : Shared} (i : ImpQ Q Q') (h : Q v s) : Q' v s := i _ _ h
def Imp1 (G P : Prop) : Prop := G → P
inductive Box (T : Prop) : Prop
  | mk (t : T) : Box T
theorem Box.out {T : Prop} : Box T → T
  | .mk t => t
theorem cut1 {T G : Prop} (t : T) (h : Box T → G) : G := h (.mk t)
theorem gtok {α : Type} {M : Model} {A : Around} {t : Sem α} {Q : α → Shared → Prop} {E : Value → Shared → Prop} {h g d x os} (k : ∀ tk, wpAny M A t Q E (Shared.mk h g d tk os)) : wpAny M A t Q E (Shared.mk h g d x os) := k x
theorem pk {G : Prop} (h : ∀ P : Prop, Imp1 G P → P) : G := h G id
theorem up {G P : Prop} (i : Imp1 G P) (g : G) : P := i g
theorem updF_front {d : Addr} {o : Obj} {news : List (Addr × Obj)} {g : Obj → List (Addr × Obj)} (U : UpdF d o news g) :
    ∃ rest, (∀ p ∈ rest, p.1 ≠ d) ∧ (∀ h₀ L h, News h₀ L h news → News h₀ L h ((d, o) :: rest)) ∧ (∀ h₀ L h o', News h₀ L h ((d, o') :: rest) → News h₀ L h (g o')) ∧
      ((d, o) ∈ news) ∧ (∀ p ∈ news, p.1 ≠ d → p ∈ rest) ∧ (∀ p ∈ rest, p ∈ news) ∧ ∀ o', (d, o') ∈ g o' := by
  obtain ⟨pre, post, rfl, hg, h1, h2⟩ := U.split
  refine ⟨pre ++ post, ?_, ?_, ?_, ?_, ?_, ?_, ?_⟩
  · intro p hp
    rcases List.mem_append.mp hp with h | h
    · exact h1 p h
    · exact h2 p h
  · intro h₀ L h N p hp
    rcases List.mem_cons.mp hp with rfl | hp
    · exact N _ (List.mem_append_right _ (.head _))
    · rcases List.mem_append.mp hp with h | h
      · exact N _ (List.mem_append_left _ h)
      · exact N _ (List.mem_append_right _ (.tail _ h))
  · intro h₀ L h o' N p hp
    rw [hg] at hp
    rcases List.mem_append.mp hp with h | h
    · exact N _ (.tail _ (List.mem_append_left _ h))
    · rcases List.mem_cons.mp h with rfl | h
      · exact N _ (.head _)
      · exact N _ (.tail _ (List.mem_append_right _ h))
  · exact List.mem_append_right _ (.head _)
  · intro p hp hne
    rcases List.mem_append.mp hp with h | h
    · exact List.mem_append_left _ h
    · rcases List.mem_cons.mp h with rfl | h
      · exact absurd rfl hne
      · exact List.mem_append_right _ h
  · intro p hp
    rcases List.mem_append.mp hp with h | h
    · exact List.mem_append_left _ h
    · exact List.mem_append_right _ (.tail _ h)
  · intro o'
    rw [hg]
    exact List.mem_append_right _ (.head _)
theorem news_drop {h₀ h : Heap} {L : Addr} {q : Addr × Obj} {news : List (Addr × Obj)} (N : News h₀ L h (q :: news)) : News h₀ L h news := fun p hp => N p (.tail _ hp)
theorem item_news {prog : Program} {w : World} {A : Around} {E : Value → Shared → Prop} {s : Shared} {h₀ : Heap} {L l : Addr} {news : List (Addr × Obj)} {vs : List Value} {n : Nat} {k : Int} {u : Tok} {v : Value} {Q : Value → Shared → Prop} {value slice : PySem.Expr}
    (N : News h₀ L s.heap news) (hm : (l, (⟨.type "list", none, .seq vs.toArray n, #[]⟩ : Obj)) ∈ news) (h0 : 0 ≤ k) (hhi : k < 2 ^ 63) (hx : vs[k.toNat]? = some v) (h : Q v s)
    (hs : subscripted slice false (.ref l) (.int k u) = operate [.ref l, .int k u] (getItem (.ref l) (.int k u)) := by with_unfolding_all rfl) :
    wpAny (model prog w) A (subscriptTail value slice (.ref l) (.int k u)) Q E s := by
  have hL : s.heap.IsList l vs.toArray := ⟨_, N.get hm, rfl, n, rfl⟩
  exact tail_any hL.typeIs slot_list_getitem.lookup (wpAny_getItem_list hL h0 hhi (by simpa using hx) h) hs
end
section
open PySem PySem.W PyProof.Rows PySem.Calls
set_option maxRecDepth 100000
theorem filled : Mine.hd.heap_39 = Mine.hd.heap_39 ∧ PySem.Challenge.rw_ok0124_01 = PySem.Challenge.rw_ok0124_01 := by
  k_fill; exact ⟨rfl, rfl⟩
abbrev srcO (a b : Int) (ta tb : Tok) (n : Nat) : Obj := ⟨.type "list", none, .seq [.int a ta, .int b tb].toArray n, #[]⟩
local macro_rules | `(tactic| k_all) => `(tactic| assumption)
local macro_rules | `(tactic| walk_at "subscriptTail Name Constant ref int") => `(tactic| (k_here; k_dflt (refine' item_news ?N ?m ?a ?b ?x ?_; (case N => k_asm); (case m => k_mem); (case a => decide); (case b => decide); (case x => rfl); k_whole)))
set_option maxHeartbeats 8000000 in
theorem take_spec {prog : Program} {w : World} {p : Program} {loose : List Str} {mean : ExcName → Option Value} {mg mb : Str → Option Value} {dp un : Nat} {gd : Option (List Code)} {cn : Str} {cs : Scope} {fa : Addr} {ccd : Value} {cl : List (Str × Addr)} {outer : List Env} {A₀ : Around} {base h₀ : Heap} {L : Addr} {m : Str → Option Value} {s : Shared} {Q E : Value → Shared → Prop}
    {news : List (Addr × Obj)} {g : Obj → List (Addr × Obj)} {src : Addr} {a b top : Int} {ta tb tt : Tok} {n : Nat}
    (B : Below A₀ base outer h₀) (F : Fr h₀ L s.heap m) (X : (Mine.hd.heap_39 w.params).In h₀) (N : News h₀ L s.heap news) (T : Top p loose mean mg mb h₀) (hk : cs.kind = .function)
    (U : UpdF src (srcO a b ta tb n) news g) (ha : 0 ≤ a) (hb : 0 ≤ b ∧ b < 2147483647) (ht : 1 ≤ top) (ht2 : top < 100) (hd : dp + 3 < recursionLimit) (hu : un + 24 < cLine)
    (ret : ∀ d a' b' ta' tb' t n' h' tk', 0 ≤ d → d < top → 0 ≤ a' → 0 ≤ b' → b' < 2147483647 → Fr h₀ L h' m → News h₀ L h' (g (srcO a' b' ta' tb' n')) → Q (.int d t) { s with heap := h', toks := tk' }) :
    wpAny (model prog w) (ktrTop dp un gd cn cs L fa ccd cl outer) (call (.ref 120) [.ref src, .int top tt]) Q E s := by
  obtain ⟨rest, hr, n1, n2, -⟩ := updF_front U
  replace N := n1 _ _ _ N
  clear n1 U
  obtain ⟨hb1, hb2⟩ := hb
  refine wpAny_call ?_
  k_dflt cell_enter
  k_steps
  · refine' ret _ _ _ _ _ _ _ _ _ ?h1 ?h2 ?h3 ?h4 ?h5 ?hF ?hN
    case hN => exact n2 _ _ _ _ (by assumption)
    case hF => assumption
    case h1 => exact Int.fmod_nonneg_of_pos _ (by lia)
    case h2 => exact Int.fmod_lt_of_pos _ (by lia)
    case h3 => exact Int.fdiv_nonneg ha (by lia)
    case h4 => exact hb1
    case h5 => exact hb2
  · refine' ret _ _ _ _ _ _ _ _ _ ?h1 ?h2 ?h3 ?h4 ?h5 ?hF ?hN
    case hN => exact n2 _ _ _ _ (by assumption)
    case hF => assumption
    case h1 => exact Int.fmod_nonneg_of_pos _ (by lia)
    case h2 => exact Int.fmod_lt_of_pos _ (by lia)
    case h3 => exact ha
    case h4 => exact Int.fmod_nonneg_of_pos _ (by lia)
    case h5 => exact Int.fmod_lt_of_pos _ (by lia)
end
section
open PySem PySem.W PyProof.Rows PySem.Calls
set_option maxRecDepth 100000
theorem filled2 : Mine.hd.heap_39 = Mine.hd.heap_39 ∧ PySem.Challenge.rw_ok0124_01 = PySem.Challenge.rw_ok0124_01 := by
  k_fill; exact ⟨rfl, rfl⟩
abbrev lstO (vs : List Value) (n : Nat) : Obj := ⟨.type "list", none, .seq vs.toArray n, #[]⟩
local macro_rules | `(tactic| k_all) => `(tactic| assumption)
local macro_rules | `(tactic| walk_at "mm") => `(tactic| first | exact List.mem_cons_self | assumption | (refine List.mem_cons_of_mem _ ?_; walk_at "mm"))
local macro_rules | `(tactic| walk_at "call ref") => `(tactic| (k_here; (with_reducible show wpAny _ _ (PySem.call (Value.ref 120) _) _ _ _); k_dflt (refine' take_spec ?B ?F ?X ?N ?T ?K ?U ?ha ?hb ?ht ?ht2 ?hd ?hu ?_; (case B | F | X | N | T => k_asm); (case K => first | exact rfl | assumption); (case U => k_updF); (case ha | hb => first | assumption | omega); (case ht | ht2 => omega); (case hd => walk_at "rm"); (case hu => walk_at "un"); k_whole); intro d' a' b' ta' tb' t' n' h' tk' hd1' hd2' ha' hb1' hb2' F' N'; (try dsimp only at N'); (try k_sweep); (try k_fold)))
theorem len_news {prog : Program} {w : World} {A : Around} {E : Value → Shared → Prop} {s : Shared} {h₀ : Heap} {L l : Addr} {news : List (Addr × Obj)} {vs : List Value} {n : Nat} {Q : Value → Shared → Prop}
    (N : News h₀ L s.heap news) (hm : (l, lstO vs n) ∈ news) (hsz : vs.length < 2 ^ 62) (h : ∀ k, k = s.toks + 1 + 1 → Q (.int vs.length (s.toks + 1)) { s with toks := k }) :
    wpAny (model prog w) A (call (.builtin "len") [.ref l]) Q E s := by
  have hL : s.heap.IsList l vs.toArray := ⟨_, N.get hm, rfl, n, rfl⟩
  refine len_list hL (by simp only [List.size_toArray]; lia) ?_
  simpa using h _ rfl
local macro_rules | `(tactic| walk_at "call builtin:len") => `(tactic| (k_here; (with_reducible show wpAny _ _ (call (Value.builtin "len") [Value.ref _]) _ _ _); k_dflt (refine' len_news ?N ?m ?z ?_; (case N => k_asm); (case m => walk_at "mm"); (case z => omega); k_whole); intro tk' htk'; clear htk'))
theorem item_at {prog : Program} {w : World} {A : Around} {E : Value → Shared → Prop} {s : Shared} {h₀ : Heap} {L l : Addr} {news : List (Addr × Obj)} {vs : List Value} {n : Nat} {k : Int} {u : Tok} {Q : Value → Shared → Prop} {value slice : PySem.Expr}
    (N : News h₀ L s.heap news) (hm : (l, lstO vs n) ∈ news) (h0 : 0 ≤ k) (hlt : k < vs.length) (hhi : k < 2 ^ 63) (h : ∀ (i : Nat) (hi : i < vs.length), i = k.toNat → Q vs[i] s)
    (hs : subscripted slice false (.ref l) (.int k u) = operate [.ref l, .int k u] (getItem (.ref l) (.int k u)) := by with_unfolding_all rfl) :
    wpAny (model prog w) A (subscriptTail value slice (.ref l) (.int k u)) Q E s :=
  item_news N hm h0 hhi (v := vs[k.toNat]'(by lia)) (by simp) (h _ _ rfl) hs
local macro_rules | `(tactic| walk_at "subscriptTail Name Call ref int") => `(tactic| (k_here; k_dflt (refine' item_at ?N ?m ?a ?b ?c ?_; (case N => k_asm); (case m => walk_at "mm"); (case a | b | c => omega); k_whole); intro i' hi' ie'))
set_option maxHeartbeats 8000000 in
theorem one_spec {prog : Program} {w : World} {p : Program} {loose : List Str} {mean : ExcName → Option Value} {mg mb : Str → Option Value} {dp un : Nat} {gd : Option (List Code)} {cn : Str} {cs : Scope} {fa : Addr} {ccd : Value} {cl : List (Str × Addr)} {outer : List Env} {A₀ : Around} {base h₀ : Heap} {L : Addr} {m : Str → Option Value} {s : Shared} {Q E : Value → Shared → Prop}
    {news : List (Addr × Obj)} {g : Obj → List (Addr × Obj)} {src th : Addr} {a b : Int} {ta tb : Tok} {n nn : Nat} {vs : List Value}
    (B : Below A₀ base outer h₀) (F : Fr h₀ L s.heap m) (X : (Mine.hd.heap_39 w.params).In h₀) (N : News h₀ L s.heap news) (T : Top p loose mean mg mb h₀) (hk : cs.kind = .function)
    (U : UpdF src (srcO a b ta tb n) news g) (M : (th, lstO vs nn) ∈ news) (hne : th ≠ src) (ha : 0 ≤ a) (hb : 0 ≤ b ∧ b < 2147483647) (ht : 1 ≤ vs.length) (ht2 : vs.length < 100) (hd : dp + 4 < recursionLimit) (hu : un + 32 < cLine)
    (ret : ∀ (i : Nat) (hi : i < vs.length) a' b' ta' tb' n' h' tk', 0 ≤ a' → 0 ≤ b' → b' < 2147483647 → Fr h₀ L h' m → News h₀ L h' (g (srcO a' b' ta' tb' n')) → Q vs[i] { s with heap := h', toks := tk' }) :
    wpAny (model prog w) (ktrTop dp un gd cn cs L fa ccd cl outer) (call (.ref 127) [.ref src, .ref th]) Q E s := by
  obtain ⟨rest, hr, n1, n2, -, n3, -⟩ := updF_front U
  replace M := n3 _ M hne
  replace N := n1 _ _ _ N
  clear n1 n3 U
  obtain ⟨hb1, hb2⟩ := hb
  refine wpAny_call ?_
  k_dflt cell_enter
  k_steps
  refine' ret _ _ _ _ _ _ _ _ _ ?h3 ?h4 ?h5 ?hF ?hN
  case hN => exact n2 _ _ _ _ (by assumption)
  case hF => assumption
  case h3 => assumption
  case h4 => assumption
  case h5 => assumption
end
section
open PySem PySem.W PyProof.Rows PySem.Calls Builtin
set_option maxRecDepth 100000
theorem gives_contains (b : Array UInt8) (i : Int) (t u : Tok) (h0 : 0 ≤ i) (h1 : i < 256) :
    Gives («bytes.__contains__» ⟨[.bytes b t, .int i u], []⟩) (.val (.bool (b.contains i.toNat.toUInt8))) := by
  refine .of_wp fun M A E s Q hq => ?_
  show wpAny M A (Bytes.containsIn "bytes.__contains__" (.bytes b t) (.int i u) >>= fun r => _) _ E s
  refine wpAny_bind ?_
  unfold Bytes.containsIn
  refine wpAny_bind (wpAny_attempt ?_)
  show wpAny M A (pure i) _ _ _
  refine wpAny_pure ?_
  rw [KBy.buffer_eq]
  show wpAny M A (if (decide (i < 0) || decide (i ≥ 256)) = true then _ else _) _ _ _
  rw [if_neg (by simp; omega)]
  exact wpAny_pure (wpAny_pure ⟨_, rfl, hq⟩)
theorem in_bytes {prog : Program} {w : World} {A : Around} {E : Value → Shared → Prop} {s : Shared} {b : List UInt8} {i : Int} {t u : Tok} {Q : Value → Shared → Prop} (h0 : 0 ≤ i) (h1 : i < 256) (h : Q (.bool (b.toArray.contains i.toNat.toUInt8)) s) :
    wpAny (model prog w) A (compareOp .In (.int i u) (.bytes b.toArray t)) Q E s :=
  in_gives (typeIs_bytes s _ t) FB.slot_bytes_contains FB.entry_bytes_contains (FB.args_bytes_contains_2 _ _) (gives_contains _ i t u h0 h1) h
theorem notIn_bytes {prog : Program} {w : World} {A : Around} {E : Value → Shared → Prop} {s : Shared} {b : List UInt8} {i : Int} {t u : Tok} {Q : Value → Shared → Prop} (h0 : 0 ≤ i) (h1 : i < 256) (h : Q (.bool (!(b.toArray.contains i.toNat.toUInt8))) s) :
    wpAny (model prog w) A (compareOp .NotIn (.int i u) (.bytes b.toArray t)) Q E s :=
  notIn_gives (typeIs_bytes s _ t) FB.slot_bytes_contains FB.entry_bytes_contains (FB.args_bytes_contains_2 _ _) (gives_contains _ i t u h0 h1) h
end
local macro_rules | `(tactic| walk_at "n0") => `(tactic| (fail_if_success (with_reducible show wpAny _ _ (exec (PySem.Stmt.While _ _ _ _) _) _ _ _)))
local macro_rules | `(tactic| walk_at "n1") => `(tactic| (fail_if_success (with_reducible show wpAny _ _ (exec (PySem.Stmt.For _ _ _ _ _) _) _ _ _)))
local macro_rules | `(tactic| walk_at "st") => `(tactic| repeat' (first | ((with_reducible refine execs_one ?_); try dsimp only) | ((with_reducible refine execs_abs ?_); intro Qa ha; try dsimp only) | (with_reducible first | refine abs_next (by with_reducible assumption) ?_ | refine abs_ret (by with_reducible assumption) ?_ | refine abs_brk (by with_reducible assumption) ?_ | refine abs_cont (by with_reducible assumption) ?_) | (k_unfold; (try dsimp only)) | (k_end; wrow_close) | (walk_at "no loop"; walk1) | (walk_at "no loop"; dsimp only; walk1) | (walk_at "no loop"; leave1; walk_say "STEP leave1"; try dsimp only) | fail "no step"))
section
open PySem PySem.W PyProof.Rows PySem.Calls
set_option maxRecDepth 100000
theorem filled3 : Mine.hd.heap_39 = Mine.hd.heap_39 ∧ PySem.Challenge.rw_ok0124_01 = PySem.Challenge.rw_ok0124_01 := by
  k_fill; exact ⟨rfl, rfl⟩
local macro_rules | `(tactic| walk_at "no loop") => `(tactic| ((walk_at "n0"); (walk_at "n1")))
theorem lk_cons {a : Str} {va : Value} {r : List (Str × Value)} {f : Str → Option Value} (h : (fun y => List.lookup y r) = f) : (fun y => List.lookup y ((a, va) :: r)) = fun y => if y = a then some va else f y := by
  subst h
  funext y
  rw [List.lookup_cons]
  by_cases h1 : y = a
  · subst h1; simp
  · have : (y == a) = false := beq_eq_false_iff_ne.mpr h1
    simp [this, h1]
theorem lk_nil : (fun y : Str => List.lookup y ([] : List (Str × Value))) = fun _ => none := rfl
theorem lk1 {h₀ h : Heap} {L : Addr} {a : Str} {va : Value} (F : Fr h₀ L h (fun y => List.lookup y [(a, va)])) : Fr h₀ L h (fun y => if y = a then some va else none) := lk_cons lk_nil ▸ F
theorem lk2 {h₀ h : Heap} {L : Addr} {a b : Str} {va vb : Value} (F : Fr h₀ L h (fun y => List.lookup y [(a, va), (b, vb)])) : Fr h₀ L h (fun y => if y = a then some va else if y = b then some vb else none) := lk_cons (lk_cons lk_nil) ▸ F
def isBl (c : UInt8) : Bool := c == 32 || c == 9 || c == 10 || c == 11 || c == 12 || c == 13
mutual
def skL : List UInt8 → Nat
  | [] => 0
  | c :: r => if c = 35 then 1 + skR r else if isBl c then 1 + skL r else 0
def skR : List UInt8 → Nat
  | [] => 0
  | c :: r => if c = 10 then 1 + skL r else 1 + skR r
end
def enL : List UInt8 → Nat
  | [] => 0
  | c :: r => if isBl c || c = 35 then 0 else 1 + enL r
/-- where skip_blanks ends -/
def skF (o : List UInt8) (i : Nat) : Nat := i + skL (o.drop i)
def enF (o : List UInt8) (i : Nat) : Nat := i + enL (o.drop i)
theorem item_by {prog : Program} {w : World} {A : Around} {E : Value → Shared → Prop} {s : Shared} {x : List UInt8} {i : Int} {t ui : Tok} {value slice : PySem.Expr} {Q : Value → Shared → Prop} (hfit : x.length < 1000000) (h0 : 0 ≤ i) (h1 : i < (x.length : Int))
    (h : ∀ (c : UInt8), x[i.toNat]? = some c → ∀ k, Q (.int c.toNat s.toks) { s with toks := k })
    (hs : subscripted slice false (.bytes x.toArray t) (.int i ui) = operate [.bytes x.toArray t, .int i ui] (getItem (.bytes x.toArray t) (.int i ui)) := by with_unfolding_all rfl)
    (ht : ∀ r, letTemporaryGo value (.bytes x.toArray t) r = pure () := by intro _; with_unfolding_all rfl) : wpAny (model prog w) A (subscriptTail value slice (.bytes x.toArray t) (.int i ui)) Q E s := by
  have hl : i.toNat < x.length := by lia
  have e : x[i.toNat]? = some (x.getD i.toNat 0) := by simp [hl]
  exact KBy.item_N (by lia) h0 h1 (h _ e _) hs ht
theorem in_blanks {prog : Program} {w : World} {A : Around} {E : Value → Shared → Prop} {s : Shared} {c : UInt8} {t u : Tok} {Q : Value → Shared → Prop} (h : Q (.bool (isBl c)) s) :
    wpAny (model prog w) A (compareOp .In (.int c.toNat u) (.bytes #[32, 9, 10, 11, 12, 13] t)) Q E s := by
  refine in_bytes (b := [32, 9, 10, 11, 12, 13]) (by lia) (by have := c.toNat_lt; lia) ?_
  rw [show ([32, 9, 10, 11, 12, 13] : List UInt8).toArray.contains (c.toNat : Int).toNat.toUInt8 = isBl c from ?_]
  · exact h
  · simp [isBl, Bool.or_assoc, Bool.beq_eq_decide_eq]
theorem notIn_blanks {prog : Program} {w : World} {A : Around} {E : Value → Shared → Prop} {s : Shared} {c : UInt8} {t u : Tok} {Q : Value → Shared → Prop} (h : Q (.bool (!isBl c)) s) :
    wpAny (model prog w) A (compareOp .NotIn (.int c.toNat u) (.bytes #[32, 9, 10, 11, 12, 13] t)) Q E s := by
  refine notIn_bytes (b := [32, 9, 10, 11, 12, 13]) (by lia) (by have := c.toNat_lt; lia) ?_
  rw [show ([32, 9, 10, 11, 12, 13] : List UInt8).toArray.contains (c.toNat : Int).toNat.toUInt8 = isBl c from ?_]
  · exact h
  · simp [isBl, Bool.or_assoc, Bool.beq_eq_decide_eq]
local macro_rules | `(tactic| walk_at "subscriptTail Name Name bytes int") => `(tactic| (k_here; k_dflt (refine' item_by ?f ?a ?b ?_; (case f | a | b => omega); k_whole); first | (rename ((_ : List UInt8)[_]? = some _) => hc0; intro c' hc' tk'; have e9 := Option.some.inj (hc0.symm.trans hc'); subst e9; clear hc') | (intro c' hc' tk')))
local macro_rules | `(tactic| walk_at "compareOp In int bytes") => `(tactic| (refine in_blanks ?_))
local macro_rules | `(tactic| walk_at "compareOp NotIn int bytes") => `(tactic| (refine notIn_blanks ?_))
theorem c35 {c : UInt8} (h : (c.toNat : Int) = 35) : c = 35 := by
  apply UInt8.toNat_inj.mp; simpa using (by lia : c.toNat = 35)
theorem bl35 {c : UInt8} (hb : isBl c = true) (h : (c.toNat : Int) = 35) : False := by
  rw [c35 h] at hb; exact absurd hb (by decide)
theorem n35 {c : UInt8} (h : (c.toNat : Int) ≠ 35) : c ≠ 35 := fun e => h (by rw [e]; rfl)
theorem c10 {c : UInt8} (h : (c.toNat : Int) = 10) : c = 10 := by
  apply UInt8.toNat_inj.mp; simpa using (by lia : c.toNat = 10)
theorem n10 {c : UInt8} (h : (c.toNat : Int) ≠ 10) : c ≠ 10 := fun e => h (by rw [e]; rfl)
theorem toNat1 {k : Int} (h : 0 ≤ k) : (k + 1).toNat = k.toNat + 1 := by lia
theorem upd_upd {α β : Type} [DecidableEq α] {a : α} {v1 v2 : β} {f : α → β} : (fun y => if y = a then v1 else if y = a then v2 else f y) = fun y => if y = a then v1 else f y := by
  funext y; by_cases h : y = a <;> simp [h]
theorem drop_of {o : List UInt8} {k : Nat} {c : UInt8} (h : o[k]? = some c) : o.drop k = c :: o.drop (k + 1) := by
  obtain ⟨h1, h2⟩ := List.getElem?_eq_some_iff.mp h
  rw [← h2]; exact List.drop_eq_getElem_cons h1
def skRF (o : List UInt8) (i : Nat) : Nat := i + skR (o.drop i)
theorem sk_bl {o : List UInt8} {k : Nat} {c : UInt8} (h : o[k]? = some c) (hb : isBl c = true) (hn : c ≠ 35) : skF o k = skF o (k + 1) := by
  unfold skF; rw [drop_of h, skL]; simp [hn, hb]; lia
theorem sk_35 {o : List UInt8} {k : Nat} (h : o[k]? = some 35) : skF o k = skRF o k := by
  unfold skF skRF; rw [drop_of h, skL, skR]; simp
theorem sk_stop {o : List UInt8} {k : Nat} {c : UInt8} (h : o[k]? = some c) (hb : isBl c = false) (hn : c ≠ 35) : skF o k = k := by
  unfold skF; rw [drop_of h, skL]; simp [hn, hb]
theorem sk_end {o : List UInt8} {k : Nat} (h : o.length ≤ k) : skF o k = k := by
  unfold skF; rw [List.drop_eq_nil_of_le h]; rfl
theorem skR_go {o : List UInt8} {k : Nat} {c : UInt8} (h : o[k]? = some c) (hn : c ≠ 10) : skRF o k = skRF o (k + 1) := by
  unfold skRF; rw [drop_of h, skR]; simp [hn]; lia
theorem skR_10 {o : List UInt8} {k : Nat} (h : o[k]? = some 10) : skRF o k = skF o k := by
  unfold skRF skF; rw [drop_of h, skR, skL]; simp [isBl]
theorem skR_end {o : List UInt8} {k : Nat} (h : o.length ≤ k) : skRF o k = skF o k := by
  unfold skRF skF; rw [List.drop_eq_nil_of_le h]; rfl
theorem ret' {h₀ h' : Heap} {L : Addr} {m : Str → Option Value} {news : List (Addr × Obj)} {s : Shared} {Q : Value → Shared → Prop} {t : Tok} {tk' : Nat} {x y : Int}
    (hret : ∀ t h' tk', Fr h₀ L h' m → News h₀ L h' news → Q (.int x t) { s with heap := h', toks := tk' }) (e : y = x) (F : Fr h₀ L h' m) (N : News h₀ L h' news) : Q (.int y t) { s with heap := h', toks := tk' } := by
  subst e; exact hret _ _ _ F N
set_option maxHeartbeats 8000000 in
theorem skip_spec {prog : Program} {w : World} {p : Program} {loose : List Str} {mean : ExcName → Option Value} {mg mb : Str → Option Value} {dp un : Nat} {gd : Option (List Code)} {cn : Str} {cs : Scope} {fa : Addr} {ccd : Value} {cl : List (Str × Addr)} {outer : List Env} {A₀ : Around} {base h₀ : Heap} {L : Addr} {m : Str → Option Value} {s : Shared} {Q E : Value → Shared → Prop}
    {news : List (Addr × Obj)} {o : List UInt8} {to ta : Tok} {i : Int}
    (B : Below A₀ base outer h₀) (F : Fr h₀ L s.heap m) (X : (Mine.hd.heap_39 w.params).In h₀) (N : News h₀ L s.heap news) (T : Top p loose mean mg mb h₀) (hk : cs.kind = .function)
    (hi : 0 ≤ i) (hi2 : i ≤ o.length) (hos : o.length < 100000) (hd : dp + 3 < recursionLimit) (hu : un + 24 < cLine)
    (ret : ∀ t h' tk', Fr h₀ L h' m → News h₀ L h' news → Q (.int (skF o i.toNat) t) { s with heap := h', toks := tk' }) :
    wpAny (model prog w) (ktrTop dp un gd cn cs L fa ccd cl outer) (call (.ref 65) [.bytes o.toArray to, .int i ta]) Q E s := by
  refine wpAny_call ?_
  k_dflt cell_enter
  refine noE ?_
  clear N F
  walk_at "st"
  rename Fr _ _ _ _ => F1
  rename News _ _ _ _ => N1
  replace F1 := lk2 F1
  refine While_inv2 (fun n m₁ nx => nx = news ∧ ∃ (k : Int) (t : Tok), 0 ≤ k ∧ k ≤ o.length ∧ n = (o.length - k).toNat ∧ skF o k.toNat = skF o i.toNat ∧ m₁ = fun y => if y = ("at" : Str) then some (.int k t) else if y = ("octets" : Str) then some (.bytes o.toArray to) else none) F1 N1 ⟨rfl, i, ta, hi, hi2, rfl, rfl, rfl⟩ ?_
  clear F1 N1
  rintro n m₁ nx h₁ tk₁ F1 N1 ⟨rfl, k, t, hk0, hk1, rfl, hK, rfl⟩
  walk_at "st"
  · exact (bl35 (by assumption) (by assumption)).elim
  · rename Fr _ _ _ _ => F1
    rename News _ _ _ _ => N1
    exact ⟨_, _, _, _, _, rfl, F1, N1, by simp only [List.size_toArray] at *; lia, rfl, k + 1, _, by lia, by simp only [List.size_toArray] at *; lia, rfl, (by rw [← hK, toNat1 hk0]; exact (sk_bl (by assumption) (by assumption) (n35 (by assumption))).symm), upd_upd⟩
  · rename_i c hbl h35
    rename (o[k.toNat]? = some _) => hc
    rename Fr _ _ _ _ => F1
    rename News _ _ _ _ => N1
    have ec := c35 h35
    subst ec
    clear h35
    have hkl : k < (o.length : Int) := by simp only [List.size_toArray] at *; lia
    refine While_inv2 (fun n m₁ nx' => nx' = nx ∧ ∃ (j : Int) (t : Tok), k ≤ j ∧ j ≤ o.length ∧ n = (o.length - j).toNat ∧ skRF o j.toNat = skF o i.toNat ∧ m₁ = fun y => if y = ("at" : Str) then some (.int j t) else if y = ("octets" : Str) then some (.bytes o.toArray to) else none) F1 N1 ⟨rfl, k, t, Int.le_refl _, hk1, rfl, (by rw [← hK]; exact (sk_35 hc).symm), rfl⟩ ?_
    clear F1 N1
    rintro n m₁ nx' h₂ tk₂ F1 N1 ⟨rfl, j, t', hj0, hj1, rfl, hJ, rfl⟩
    walk_at "st"
    · rename Fr _ _ _ _ => F1
      rename News _ _ _ _ => N1
      exact ⟨_, _, _, _, _, rfl, F1, N1, by simp only [List.size_toArray] at *; lia, rfl, j + 1, _, by lia, by simp only [List.size_toArray] at *; lia, rfl, (by rw [← hJ, toNat1 (by lia)]; exact (skR_go (by assumption) (n10 (by assumption))).symm), upd_upd⟩
    · rename_i c' hc' _ h10
      have ec := c10 h10
      subst ec
      have hjk : j ≠ k := by
        rintro rfl
        rw [hc] at hc'
        cases hc'
      exact ⟨_, _, _, _, _, rfl, F1, N1, by lia, rfl, j, _, by lia, by lia, rfl, (by rw [← hJ]; exact (skR_10 hc').symm), rfl⟩
    · exact ⟨_, _, _, _, _, rfl, F1, N1, by simp only [List.size_toArray] at *; lia, rfl, j, _, by lia, by lia, rfl, (by rw [← hJ]; exact (skR_end (by simp only [List.size_toArray] at *; lia)).symm), rfl⟩
  · exact absurd ‹_ = (35 : Int)› ‹_ ≠ (35 : Int)›
  · refine ret' (x := skF o i.toNat) ret ?_ (by assumption) (by assumption)
    rw [← hK, sk_stop (by assumption) (by assumption) (n35 (by assumption))]; lia
  · refine ret' (x := skF o i.toNat) ret ?_ (by assumption) (by assumption)
    rw [← hK, sk_end (by simp only [List.size_toArray] at *; lia)]; lia
end
section
open PySem PySem.W PyProof.Rows PySem.Calls
set_option maxRecDepth 100000
section
variable {prog : Program} {w : World} {A : Around} {E : Value → Shared → Prop} {h : Heap} {g : Array GenState} {d : Drawn} {t : Nat} {os : OsState}
variable {nm q : Str} {C N : Addr} {bs bm : List Value} {sn : List Str} {sub : List Value} {ab : Bool} {col : Option Bool} {dd : Option Addr} {k0 k1 k2 k3 k5 : Option Value}
abbrev excO (C : Addr) (tp : Addr) (dx : Option Addr) : Obj := { cls := .ref C, dict := dx, data := .fields #[.ref tp, .none, .none, .none, .bool false, .none] }
abbrev argT (rest : List Value) : Obj := { cls := .type "tuple", data := .seq rest.toArray }
theorem exc_new {R : Result → Shared → Prop} {rest : List Value} (hC : h.get? C = some (excClassObj nm q C N bs bm true sn sub ab col dd k0 k1 k2 k3 k5 "Exception.__new__"))
    (h1 : bm.contains (.type "Exception") = true) (h2 : bm.contains (.type "AttributeError") = false) (h3 : bm.contains (.type "NameError") = false)
    (hq : R (.ok (.ret (.ref (h.objs.size + 1)))) ⟨(h.push (argT rest)).push (excO C h.objs.size none), g, d, t, os⟩) (hrest : rest.length ≤ sizeLine := by size_fits) :
    codeAny (model prog w) A (.builtin "Exception.__new__" ⟨.ref C :: rest, []⟩) R ⟨h, g, d, t, os⟩ := by
  have F := PySem.F.excBase_Exception
  have hends := F.ends
  have hcB : (Value.ref C :: bm).contains (.type "Exception") = true := by rw [List.contains_cons, h1, Bool.or_true]
  have hcA : (Value.ref C :: bm).contains (.type "AttributeError") = false := by rw [List.contains_cons, h2]; rfl
  have hcN : (Value.ref C :: bm).contains (.type "NameError") = false := by rw [List.contains_cons, h3]; rfl
  refine codeAny_builtinAt F.entry ?_
  unfold Builtin.«BaseException.__new__»
  refine PySem.wpAt_bind ?_
  show PySem.wpAt _ _ _ (stack >>= _) _ _ _
  refine PySem.wpAt_bind (PySem.wpAt_stack fun p below => PySem.wpAt_of_wpAny ?_)
  wp_walk
  refine PySem.wpAt_of_wpAny ?_
  rw [F.owner]
  repeat (first | with_reducible refine wpAny_madeHere_exc F.canon hC ?_ | with_reducible refine wpAny_loadPart_at hC ?_ | (with_reducible refine wpAny_isSubtype_exc hC ?_; first | rw [hcB] | rw [hcA] | rw [hcN]) | wp_step)
  show R _ _
  rw [Heap.size_push]
  exact hq
theorem exc_check {rest : List Value} {Q : Unit → Shared → Prop} (hC : h.get? C = some (excClassObj nm q C N bs bm true sn sub ab col dd k0 k1 k2 k3 k5 "Exception.__new__"))
    (h1 : bm.contains (.type "Exception") = true)
    (hq : Q () ⟨h, g, d, t, os⟩) : wpAny (model prog w) A (checkBuiltinCall "Exception.__new__" ⟨.ref C :: rest, []⟩) Q E ⟨h, g, d, t, os⟩ := by
  have F := PySem.F.excBase_Exception
  have hcont : (Value.ref C :: bm).contains (.type "Exception") = true := by rw [List.contains_cons, h1, Bool.or_true]
  have hstar := F.noStar
  simp only [checkBuiltinCall, F.newKind, F.newSplit, F.newRow]
  repeat (first | refine wpAny_loadPart_at hC ?_ | (refine wpAny_isSubtype_exc hC ?_; rw [hcont]) | refine wpAny_staticBase_exc hC ?_ | refine wpAny_madeBy_exc hC ?_ | simp only [bne_self_eq_false, Bool.false_eq_true, if_false] | wp_step)
  exact hq
theorem exc_type_call {K : Frag} {fI : Addr} {rest : List Value} {Q : Fin → Shared → Prop}
    (hC : h.get? C = some (excClassObj nm q C N bs bm true sn sub ab col dd k0 k1 k2 k3 k5 "Exception.__new__"))
    (h1 : bm.contains (.type "Exception") = true) (h2 : bm.contains (.type "AttributeError") = false) (h3 : bm.contains (.type "NameError") = false)
    (X : K.In h) (hi : findIn K (.ref C) "__init__" = some (some (.ref fI))) (hf : typeIn K (.ref fI) = some (.type "function"))
    (hq : wpAny (model prog w) A (call (.ref fI) (.ref (h.objs.size + 1) :: rest)) (fun r s' => r = .none ∧ Q (.done (.ret (.ref (h.objs.size + 1)))) s') E ⟨(h.push (argT rest)).push (excO C h.objs.size none), g, d, t, os⟩) (hrest : rest.length ≤ sizeLine := by size_fits) :
    wpAny (model prog w) A (Builtin.«type.__call__» ⟨.ref C :: rest, []⟩) Q E ⟨h, g, d, t, os⟩ := by
  repeat (first | with_reducible refine wpAny_loadPart_at hC ?_ | with_reducible refine wpAny_madeBy_exc hC ?_ | wp_step)
  refine codeAny_call_builtin_code (Code.quiet_builtin _ PySem.F.excBase_Exception.quiet) (exc_check hC h1 ?_)
  refine exc_new hC h1 h2 h3 ?_ hrest
  show wpAny _ _ _ _ _ _
  have hk : ∀ b o, h.get? b = some o → ((h.push (argT rest)).push (excO C h.objs.size none)).get? b = some o := fun b o e => Heap.get?_push_of_some _ (Heap.get?_push_of_some _ e)
  have hC₁ := hk _ _ hC
  have hget : ((h.push (argT rest)).push (excO C h.objs.size none)).get? (h.objs.size + 1) = some (excO C h.objs.size none) := by heap_get
  have hcC : (Value.ref C :: bm).contains (.ref C) = true := by simp
  have I1 := (looks_findIn (M := model prog w) X hi).keeps hk
  have I2 := (bind_fn (M := model prog w) X (.ref (h.objs.size + 1)) hf).keeps hk
  unfold isInstance
  repeat (first | with_reducible refine wpAny_loadPart_at hget ?_ | (with_reducible refine wpAny_isSubtype_exc hC₁ ?_; rw [hcC]) | wp_step)
  show wpAny _ _ (typeLookup (.ref C) _) _ _ _
  refine I1.here ?_
  refine wpAny_holding (wpAny_bind ?_)
  refine I2.here ?_
  refine (wpAny_bind (wpAny_mono hq (fun r s' hr => ?_) fun _ _ x => x))
  obtain ⟨rfl, hQ⟩ := hr
  wp_walk
  exact hQ
theorem exc_call {K : Frag} {fI : Addr} {rest : List Value} {Q : Value → Shared → Prop}
    (hC : h.get? C = some (excClassObj nm q C N bs bm true sn sub ab col dd k0 k1 k2 k3 k5 "Exception.__new__"))
    (h1 : bm.contains (.type "Exception") = true) (h2 : bm.contains (.type "AttributeError") = false) (h3 : bm.contains (.type "NameError") = false)
    (X : K.In h) (hi : findIn K (.ref C) "__init__" = some (some (.ref fI))) (hf : typeIn K (.ref fI) = some (.type "function"))
    (hq : wpAny (model prog w) (A.under (.builtin "type.__call__" ⟨.ref C :: rest, []⟩)) (call (.ref fI) (.ref (h.objs.size + 1) :: rest)) (fun r s' => r = .none ∧ Q (.ref (h.objs.size + 1)) s') E ⟨(h.push (argT rest)).push (excO C h.objs.size none), g, d, t, os⟩) (hrest : rest.length ≤ sizeLine := by size_fits) :
    wpAny (model prog w) A (call (.ref C) rest) Q E ⟨h, g, d, t, os⟩ := by
  have f1 := tc_lookup
  have f2 := tc_bind (.ref C)
  have hT : (⟨h, g, d, t, os⟩ : Shared).TypeIs (.ref C) "type" := ⟨_, hC, rfl⟩
  refine wpAny_call (codeAny_of_tree ?_)
  show wpAny _ _ (callAny (.ref C) _) _ _ _
  repeat (any_goals (first | assumption | with_reducible refine wpAny_loadPart_at hC ?_ | wp_step))
  refine ⟨rfl, ?_⟩
  refine codeAny_call_builtin_at (Code.quiet_builtin _ (by decide +kernel)) entry_typeCall (wpAny_check_type_call_sub hC (exc_type_call (hrest := hrest) hC h1 h2 h3 X hi hf ?_))
  exact hq
theorem exc_check_init {e : Addr} {oe : Obj} {rest : List Value} {Q : Unit → Shared → Prop}
    (hC : h.get? C = some (excClassObj nm q C N bs bm true sn sub ab col dd k0 k1 k2 k3 k5 "Exception.__new__")) (h1 : bm.contains (.type "Exception") = true) (he : h.get? e = some oe) (hcls : oe.cls = .ref C) (hq : Q () ⟨h, g, d, t, os⟩) :
    wpAny (model prog w) A (checkBuiltinCall "Exception.__init__" ⟨.ref e :: rest, []⟩) Q E ⟨h, g, d, t, os⟩ := by
  have F := PySem.F.excBase_Exception
  have hcB : (Value.ref C :: bm).contains (.type "Exception") = true := by rw [List.contains_cons, h1, Bool.or_true]
  have hshort := F.noStar
  simp only [checkBuiltinCall, F.initKind, F.initSplit, F.initRow]
  repeat (first | (with_reducible refine wpAny_loadPart_at he ?_; rw [hcls]) | with_reducible refine wpAny_loadPart_at hC ?_ | (with_reducible refine wpAny_isSubtype_exc hC ?_; rw [hcB]) | wp_step)
  refine wpAny_onRaise ?_
  rw [show ∀ (a b : String) (n : Nat), Bind.check ⟨.positional, "*", "Exception", .self, [⟨"args", .varPos, false⟩]⟩ a b n (List.map (fun x => x.fst) ({ pos := Value.ref e :: rest } : Args).kw) = pure () from
    fun a b n => check_star_args _ _ _ _ _ _]
  exact wpAny_pure hq
theorem exc_init {e tp : Addr} {dx : Option Addr} {rest : List Value} {Q : Value → Shared → Prop}
    (hC : h.get? C = some (excClassObj nm q C N bs bm true sn sub ab col dd k0 k1 k2 k3 k5 "Exception.__new__")) (h1 : bm.contains (.type "Exception") = true) (he : h.get? e = some (excO C tp dx))
    (hq : ∀ h', h' = (h.push (argT rest)).update e (Obj.mapFields (·.setIfInBounds 0 (.ref h.objs.size))) → Q .none ⟨h', g, d, t, os⟩) (hrest : rest.length ≤ sizeLine := by size_fits) :
    wpAny (model prog w) A (call (.builtin "Exception.__init__") (.ref e :: rest)) Q E ⟨h, g, d, t, os⟩ := by
  have F := PySem.F.excBase_Exception
  refine wpAny_call (codeAny_call_builtin F.init.plain F.initEntry (exc_check_init hC h1 he rfl ?_))
  wp_walk
  exact hq _ rfl
theorem meta_Exception : typeOf (.type "Exception") = pure (.type "type") := by kernel_rfl
end
end
section
open PySem PySem.W PyProof.Rows PySem.Calls Builtin Builtin.ObjectAttr
set_option maxRecDepth 100000
set_option maxHeartbeats 8000000 in
theorem exc_store {prog : Program} {w : World} {A : Around} {s : Shared} {K : Frag} {x C tp L : Addr} {cd : ClassData} {name : Str} {tk : Tok} {v : Value} {R : Result → Shared → Prop} {h₀ : Heap} {m : Str → Option Value} {news : List (Addr × Obj)}
    (F : Fr h₀ L s.heap m) (N : News h₀ L s.heap ((x, excO C tp none) :: news)) (X : K.In s.heap) (hc : clsIn K C = some cd) (hd : cd.hasDict = true) (hne : cd.mro.isEmpty = false)
    (hob : cd.mro.contains (.type "object") = true) (hp : ∀ self : Value, PySem.refuseLoop self ("__setattr__" : Str) cd.mro = (pure () : Sem Unit))
    (ha : findIn K (.ref C) name = some none) (hlt : ∀ p ∈ news, p.1 ≠ x)
    (h : ∀ dx h' tk', Fr h₀ L h' m → News h₀ L h' ((x, excO C tp (some dx)) :: news) → R (.ok (.ret .none)) { s with heap := h', toks := tk' }) :
    codeAny (model prog w) A (.call (.builtin "object.__setattr__") ⟨[.ref x, .str name tk, v], []⟩) R s := by
  have hx := (N _ (.head _)).1
  have I : InstAt s.heap x (excO C tp none) C none := ⟨hx, rfl, rfl, trivial⟩
  have SF := PySem.F.store_object
  have sub : Looks (model prog w) s.heap (isInstance (.ref x) (.type "object")) true := I.type.andThen (looks_mroIn X (by unfold mroIn; rw [hc, Option.bind_some, if_neg (by rw [hne]; decide), hob]))
  refine codeAny_call_builtin SF.slot.plain SF.entry (@check_slot (model prog w) _ _ _ "object.__setattr__" "object" "__setattr__" (.ref x) [.str name tk, v] [] _ SF.kind SF.split sub (SF.args (.ref x) (.str name tk) v) ?_)
  have hm : Looks (model prog w) s.heap (mroOf (.ref C)) cd.mro := (looks_clsIn X hc).andThen .now
  rw [osa_eq, refuse_eq]
  refine wpAny_bind (wpAny_bind (I.type.here (wpAny_bind (hm.here ?_))))
  rw [hp]
  refine wpAny_pure (wpAny_bind (I.type.here (wpAny_bind ((looks_findIn X ha).here (wpAny_bind (Looks.now.here ?_))))))
  refine wpAny_bind (wpAny_pure (wpAny_bind (wpAny_bind (wpAny_loadPart hx (wpAny_bind ((looks_clsIn X hc).here ?_))))))
  rw [hd]
  have hxs : x ≠ s.heap.objs.size := Nat.ne_of_lt (Heap.lt_size hx)
  have hx₁ : (s.heap.push { cls := .type "dict", data := .dict #[] }).get? x = some (excO C tp none) := Heap.get?_push_of_some _ hx
  refine wpAny_bind (wpAny_alloc ?_)
  refine wpAny_bind (wpAny_update hx₁ ?_)
  refine wpAny_pure (a := some s.heap.objs.size) ?_
  show wpAny _ _ (storeInDict s.heap.objs.size (.str name tk) name v) _ _ _
  unfold storeInDict newKeyGuard
  have hgd : ((s.heap.push { cls := .type "dict", data := .dict #[] }).update x fun o => { cls := o.cls, dict := some s.heap.objs.size, data := o.data, slots := o.slots }).get? s.heap.objs.size
      = some { cls := .type "dict", data := .dict #[] } :=
    (Heap.get?_update_ne _ _ _ _ hxs.symm).trans (Heap.get?_push_at rfl rfl)
  have hnd : ((s.heap.push { cls := .type "dict", data := .dict #[] }).update x fun o => { cls := o.cls, dict := some s.heap.objs.size, data := o.data, slots := o.slots }).Ns s.heap.objs.size (fun _ => none) :=
    ⟨_, #[], _, hgd, rfl, fun e he => absurd he (by simp), fun _ => rfl⟩
  refine wpAny_bind (wpAny_pure (wpAny_bind (wpAny_nsSet1 (Heap.Ns1.of_empty hnd) fun h' hn' hs' => ?_)))
  obtain ⟨oD, esD, epD, hoD, hdD, hcD⟩ := hn'.count (Within.cons name v Within.nil)
  refine wpAny_bind (wpAny_lookBehind hoD (by rw [hdD]; exact pastItsLine_dict (Nat.le_trans hcD (by rw [List.length_cons, List.length_nil, sizeLine_eq]; omega))) ?_)
  refine wpAny_pure ?_
  have hL := (N _ (.head _)).2.1
  have fresh : ∀ b o, h₀.get? b = some o → b ≠ x ∧ b ≠ s.heap.objs.size := fun b o e => ⟨fun q => (by have h9 := (N _ (.head _)).2.2; rw [← q, e] at h9; exact absurd h9 (by simp)), Nat.ne_of_lt (Heap.lt_size (F.keep b o e))⟩
  have old : ∀ b o, b ≠ x → s.heap.get? b = some o → h'.get? b = some o := fun b o hb e =>
    (hs'.2 b (Nat.ne_of_lt (Heap.lt_size e))).trans ((Heap.get?_update_ne _ _ _ _ hb).trans (Heap.get?_push_of_some _ e))
  refine h s.heap.objs.size h' _ ⟨?_, fun b o e => old b o (fresh b o e).1 (F.keep b o e), F.above⟩ ?_
  · obtain ⟨oL, es, ep, e1, r⟩ := F.ns
    exact ⟨oL, es, ep, old _ _ (Ne.symm hL) e1, r⟩
  · intro p hp'
    rcases List.mem_cons.mp hp' with rfl | hp'
    · refine ⟨?_, hL, (N _ (.head _)).2.2⟩
      exact (hs'.2 x hxs).trans (Heap.get?_update_self _ hx₁ rfl)
    · exact ⟨old _ _ (hlt p hp') (N _ (.tail _ hp')).1, (N _ (.tail _ hp')).2⟩
theorem exc_set {prog : Program} {w : World} {A : Around} {E : Value → Shared → Prop} {s : Shared} {K : Frag} {x C tp L : Addr} {cd : ClassData} {name : Str} {v : Value} {Q : Unit → Shared → Prop} {h₀ : Heap} {m : Str → Option Value} {news : List (Addr × Obj)}
    (F : Fr h₀ L s.heap m) (N : News h₀ L s.heap ((x, excO C tp none) :: news)) (X : K.In s.heap) (hc : clsIn K C = some cd) (hd : cd.hasDict = true) (hne : cd.mro.isEmpty = false)
    (hob : cd.mro.contains (.type "object") = true) (hp : ∀ self : Value, PySem.refuseLoop self ("__setattr__" : Str) cd.mro = (pure () : Sem Unit))
    (hs : findIn K (.ref C) "__setattr__" = some (some (.builtin "object.__setattr__"))) (ha : findIn K (.ref C) name = some none) (hlt : ∀ p ∈ news, p.1 ≠ x)
    (h : ∀ dx h' tk', Fr h₀ L h' m → News h₀ L h' ((x, excO C tp (some dx)) :: news) → Q () { s with heap := h', toks := tk' }) :
    wpAny (model prog w) A (setAttr (.ref x) name v) Q E s := by
  have I : InstAt s.heap x (excO C tp none) C none := ⟨(N _ (.head _)).1, rfl, rfl, trivial⟩
  exact set_plain X I hs (exc_store (s := { s with toks := s.toks + 1 }) F N X hc hd hne hob hp ha hlt h)
theorem exc_init_K {prog : Program} {w : World} {A : Around} {E : Value → Shared → Prop} {s : Shared} {K : Frag} {nm q : Str} {C Nn : Addr} {bs bm : List Value} {sn : List Str} {sub : List Value} {ab : Bool} {col : Option Bool} {dd : Option Addr} {k0 k1 k2 k3 k5 : Option Value} {e tp L : Addr} {v : Value} {Q : Value → Shared → Prop} {h₀ : Heap} {m : Str → Option Value} {news : List (Addr × Obj)} {dx : Option Addr}
    (F : Fr h₀ L s.heap m) (N : News h₀ L s.heap ((e, excO C tp dx) :: news)) (X : K.In h₀) (hC : K.lookup C = some (excClassObj nm q C Nn bs bm true sn sub ab col dd k0 k1 k2 k3 k5 "Exception.__new__")) (h1 : bm.contains (.type "Exception") = true) (hlt : ∀ p ∈ news, p.1 ≠ e)
    (h : ∀ tp' h', Fr h₀ L h' m → News h₀ L h' ((e, excO C tp' dx) :: news) → Q .none { s with heap := h' }) :
    wpAny (model prog w) A (call (.builtin "Exception.__init__") [.ref e, v]) Q E s := by
  obtain ⟨hh, g, d, t, os⟩ := s
  dsimp only at F N
  have he : hh.get? e = some (excO C tp dx) := (N _ (.head _)).1
  refine exc_init (F.keep _ _ (X C _ hC)) h1 he (fun h' eh => ?_)
  subst eh
  have N1 : News h₀ L (hh.push (argT [v])) ([] ++ (e, excO C tp dx) :: news) := fun p hp => (N.push F (argT [v])) p (.tail _ hp)
  obtain ⟨F2, N2⟩ := news_upd (f := Obj.mapFields (·.setIfInBounds 0 (.ref hh.objs.size))) (o' := excO C hh.objs.size dx) (F.push (argT [v])) N1 (fun _ hp => nomatch hp) hlt rfl rfl
  exact h _ _ F2 N2
end
section
open PySem PySem.W PyProof.Rows PySem.Calls
set_option maxRecDepth 100000
theorem filled5 : Mine.hd.heap_39 = Mine.hd.heap_39 ∧ PySem.Challenge.rw_ok0124_01 = PySem.Challenge.rw_ok0124_01 := by
  k_fill; exact ⟨rfl, rfl⟩
local macro_rules | `(tactic| walk_at "no loop") => `(tactic| ((walk_at "n0"); (walk_at "n1")))
theorem tup_fld {e tp tp' : Addr} {C : Addr} {dx : Option Addr} : Obj.mapFields (fun x => x.setIfInBounds 0 (Value.ref tp')) (excO C tp dx) = excO C tp' dx := rfl
set_option maxHeartbeats 8000000 in
theorem exc_make {prog : Program} {w : World} {p : Program} {loose : List Str} {mean : ExcName → Option Value} {mg mb : Str → Option Value} {dp un : Nat} {gd : Option (List Code)} {cn : Str} {cs : Scope} {fa : Addr} {ccd : Value} {cl : List (Str × Addr)} {outer : List Env} {A₀ : Around} {base h₀ : Heap} {L : Addr} {m : Str → Option Value} {s : Shared} {Q E : Value → Shared → Prop}
    {news : List (Addr × Obj)} {msg : Str} {tm : Tok} {nm q : Str} {C Nn : Addr} {bs bm : List Value} {sn : List Str} {sub : List Value} {ab : Bool} {col : Option Bool} {dd : Option Addr} {k0 k1 k2 k3 k5 : Option Value} {cd : ClassData}
    (B : Below A₀ base outer h₀) (F : Fr h₀ L s.heap m) (X : (Mine.hd.heap_39 w.params).In h₀) (N : News h₀ L s.heap news) (T : Top p loose mean mg mb h₀) (hk : cs.kind = .function)
    (hC : (Mine.hd.heap_39 w.params).lookup C = some (excClassObj nm q C Nn bs bm true sn sub ab col dd k0 k1 k2 k3 k5 "Exception.__new__"))
    (h1 : bm.contains (.type "Exception") = true) (h2 : bm.contains (.type "AttributeError") = false) (h3 : bm.contains (.type "NameError") = false)
    (hi : findIn (Mine.hd.heap_39 w.params) (.ref C) "__init__" = some (some (.ref 28)))
    (hc : clsIn (Mine.hd.heap_39 w.params) C = some cd) (hcd : cd.hasDict = true) (hne : cd.mro.isEmpty = false)
    (hob : cd.mro.contains (.type "object") = true) (hp : ∀ self : Value, PySem.refuseLoop self ("__setattr__" : Str) cd.mro = (pure () : Sem Unit))
    (hs : findIn (Mine.hd.heap_39 w.params) (.ref C) "__setattr__" = some (some (.builtin "object.__setattr__"))) (ha : findIn (Mine.hd.heap_39 w.params) (.ref C) "message" = some none)
    (hd : dp + 3 < recursionLimit) (hu : un + 24 < cLine)
    (ret : ∀ e tp dx h' tk', Fr h₀ L h' m → News h₀ L h' ((e, excO C tp (some dx)) :: news) → (∀ p ∈ news, p.1 < e) → Q (.ref e) { s with heap := h', toks := tk' }) :
    wpAny (model prog w) (ktrTop dp un gd cn cs L fa ccd cl outer) (call (.ref C) [.str msg tm]) Q E s := by
  have X1 := X.keeps F.keep
  obtain ⟨h, g, d, t, os⟩ := s
  refine exc_call (K := Mine.hd.heap_39 w.params) (X1 C _ hC) h1 h2 h3 X1 (fI := 28) hi (by k_is) ?_
  have F1 := (F.push (argT [.str msg tm])).push (excO C h.objs.size none)
  have N1 := (N.push F (argT [.str msg tm])).push (F.push _) (excO C h.objs.size none)
  rw [Heap.size_push] at N1
  have hlt : ∀ p ∈ news, p.1 < h.objs.size := fun p hp => Heap.lt_size (N p hp).1
  dsimp only at F N N1
  replace N1 : News h₀ L ((h.push (argT [.str msg tm])).push (excO C h.objs.size none)) ((h.objs.size + 1, excO C h.objs.size none) :: news) := fun p hp => (List.mem_cons.mp hp).elim (fun e => N1 p (e ▸ .head _)) fun e => N1 p (.tail _ (.tail _ e))
  clear F N
  generalize h.objs.size = tp at *
  refine wpAny_call ?_
  k_dflt cell_enter
  clear F1 N1
  walk_at "st"
  rename Fr _ _ _ _ => F2
  rename News _ _ _ _ => N2
  refine method_type (T := "Exception") (v := .builtin "Exception.__init__") F2 (by k_asm) meta_Exception (by decide +kernel) (by k_is) (by k_handed) ?_
  walk_at "st"
  have hlt' : ∀ p ∈ news, p.1 ≠ tp + 1 := fun p hp => Nat.ne_of_lt (Nat.lt_succ_of_lt (hlt p hp))
  refine exc_init_K F2 N2 (by k_asm) hC h1 hlt' ?_
  clear F2 N2
  intro tp' h2 F2 N2
  walk_at "st"
  refine exc_set (K := Mine.hd.heap_39 w.params) F2 N2 (by k_in) hc hcd hne hob hp hs ha hlt' ?_
  clear F2 N2
  intro dx h3 tk3 F2 N2
  walk_at "st"
  rename Fr _ _ _ _ => kF
  rename News _ _ _ _ => kN
  exact ret _ _ _ _ _ kF kN fun p hp => Nat.lt_succ_of_lt (hlt p hp)
theorem passes44 (self : Value) : PySem.refuseLoop self ("__setattr__" : Str) [Value.ref 44, Value.ref 31, Value.type "Exception", Value.type "BaseException", Value.type "object"] = (pure () : Sem Unit) := by
  rw [refuseLoop_ref, refuseLoop_ref]; exact PySem.F.store_Exception.passes self
theorem passes56 (self : Value) : PySem.refuseLoop self ("__setattr__" : Str) [Value.ref 56, Value.ref 31, Value.type "Exception", Value.type "BaseException", Value.type "object"] = (pure () : Sem Unit) := by
  rw [refuseLoop_ref, refuseLoop_ref]; exact PySem.F.store_Exception.passes self
theorem exc44 {prog : Program} {w : World} {p : Program} {loose : List Str} {mean : ExcName → Option Value} {mg mb : Str → Option Value} {dp un : Nat} {gd : Option (List Code)} {cn : Str} {cs : Scope} {fa : Addr} {ccd : Value} {cl : List (Str × Addr)} {outer : List Env} {A₀ : Around} {base h₀ : Heap} {L : Addr} {m : Str → Option Value} {s : Shared} {Q E : Value → Shared → Prop}
    {news : List (Addr × Obj)} {msg : Str} {tm : Tok}
    (B : Below A₀ base outer h₀) (F : Fr h₀ L s.heap m) (X : (Mine.hd.heap_39 w.params).In h₀) (N : News h₀ L s.heap news) (T : Top p loose mean mg mb h₀) (hk : cs.kind = .function)
    (hd : dp + 3 < recursionLimit) (hu : un + 24 < cLine)
    (ret : ∀ e tp dx h' tk', Fr h₀ L h' m → News h₀ L h' ((e, excO 44 tp (some dx)) :: news) → (∀ p ∈ news, p.1 < e) → Q (.ref e) { s with heap := h', toks := tk' }) :
    wpAny (model prog w) (ktrTop dp un gd cn cs L fa ccd cl outer) (call (.ref 44) [.str msg tm]) Q E s :=
  exc_make B F X N T hk (by k_is) (by decide) (by decide) (by decide) (by k_is) (by k_is) rfl rfl (by decide) passes44 (by k_is) (by k_is) hd hu ret
theorem exc56 {prog : Program} {w : World} {p : Program} {loose : List Str} {mean : ExcName → Option Value} {mg mb : Str → Option Value} {dp un : Nat} {gd : Option (List Code)} {cn : Str} {cs : Scope} {fa : Addr} {ccd : Value} {cl : List (Str × Addr)} {outer : List Env} {A₀ : Around} {base h₀ : Heap} {L : Addr} {m : Str → Option Value} {s : Shared} {Q E : Value → Shared → Prop}
    {news : List (Addr × Obj)} {msg : Str} {tm : Tok}
    (B : Below A₀ base outer h₀) (F : Fr h₀ L s.heap m) (X : (Mine.hd.heap_39 w.params).In h₀) (N : News h₀ L s.heap news) (T : Top p loose mean mg mb h₀) (hk : cs.kind = .function)
    (hd : dp + 3 < recursionLimit) (hu : un + 24 < cLine)
    (ret : ∀ e tp dx h' tk', Fr h₀ L h' m → News h₀ L h' ((e, excO 56 tp (some dx)) :: news) → (∀ p ∈ news, p.1 < e) → Q (.ref e) { s with heap := h', toks := tk' }) :
    wpAny (model prog w) (ktrTop dp un gd cn cs L fa ccd cl outer) (call (.ref 56) [.str msg tm]) Q E s :=
  exc_make B F X N T hk (by k_is) (by decide) (by decide) (by decide) (by k_is) (by k_is) rfl rfl (by decide) passes56 (by k_is) (by k_is) hd hu ret
end
section
open PySem PySem.W PyProof.Rows PySem.Calls
set_option maxRecDepth 100000
theorem filled6 : Mine.hd.heap_39 = Mine.hd.heap_39 ∧ PySem.Challenge.rw_ok0124_01 = PySem.Challenge.rw_ok0124_01 := by
  k_fill; exact ⟨rfl, rfl⟩
/-- what a raise asks of what it raises -/
def RaiseQ (C : Addr) (E : Value → Shared → Prop) (v : Value) (s₁ : Shared) : Prop :=
  ∃ e tp dx cd dd sl, v = .ref e ∧ s₁.heap.get? C = some ⟨.type "type", dd, .cls cd, sl⟩ ∧ cd.mro.contains (.type "BaseException") = true ∧ s₁.heap.get? e = some (excO C tp dx) ∧ E (.ref e) s₁
theorem raise_made {M : Model} {A : Around} {E : Value → Shared → Prop} {env : Env} {C : Addr} {s : Shared} {x : Sem Value} {Q : Flow → Shared → Prop} (hh : A.handled = none)
    (h : wpAny M A x (RaiseQ C E) E s) : wpAny M A (raiseStmt env (some x) none) Q E s := by
  unfold raiseStmt
  refine wpAny_bind (wpAny_mono h (fun v s₁ h₁ => ?_) fun _ _ x => x)
  obtain ⟨e, t, dx, ⟨a1, a2, mro, a4, a5, a6, a7, a8, a9, a10, a11⟩, dd, sl, rfl, hC, hb, he, hE⟩ := h₁
  dsimp only at hb
  obtain ⟨hp, g, d, tk, os⟩ := s₁
  have hsub : ∀ {Q : Bool → Shared → Prop}, Q true ⟨hp, g, d, tk, os⟩ → wpAny M A (isSubtype (.ref C) (.type "BaseException")) Q E ⟨hp, g, d, tk, os⟩ := by
    intro Q hq
    unfold isSubtype
    repeat (any_goals (first | assumption | wp_step))
    rw [if_neg (by cases mro with | nil => cases hb | cons _ _ => exact Bool.false_ne_true)]
    show wpAny M A (pure (mro.contains (Value.type "BaseException"))) Q E _
    rw [hb]; exact wpAny_pure hq
  repeat (first | with_reducible refine wpAny_loadPart_at he ?_ | with_reducible refine wpAny_loadPart_at hC ?_ | (with_reducible refine hsub ?_) | wp_step)
  exact wpAny_raiseNew_none hh hE
theorem exec_raise {M : Model} {A : Around} {E : Value → Shared → Prop} {env : Env} {C : Addr} {s : Shared} {e : PySem.Expr} {pos : Pos} {Q : Flow → Shared → Prop} (hh : A.handled = none)
    (h : wpAny M A (eval e env) (RaiseQ C E) E s) : wpAny M A (exec (.Raise (some e) none pos) env) Q E s := by
  rw [arm_exec_Raise]
  refine wpAny_bind (wpAny_standAt (raise_made (C := C) hh (wpAny_bind (wpAny_mono h (fun v s₃ h₃ => wpAny_bind (wpAny_standAt (wpAny_pure h₃))) fun _ _ x => x))))
theorem leave_exc {M : Model} {A : Around} {E : Value → Shared → Prop} {s' : Shared} {base g : Heap} {outer : List Env} {L e C tp : Addr} {dx : Option Addr} {m : Str → Option Value} {env : Env} {Q : Unit → Shared → Prop} {news : List (Addr × Obj)}
    (K : Below A base outer g) (F : Fr g L s'.heap m) (N : News g L s'.heap ((e, excO C tp dx) :: news)) (hlt : ∀ p ∈ news, p.1 ≠ e)
    (hQ : ∀ h'', RaisedN base outer e (.ref C) news h'' → g.UpToSlots h'' → Q () { s' with heap := h'' }) (hf : env.frame = some L) (hk : env.scope.kind = .function) :
    wpAny M (A.deeper env) (leaving env (.ref e)) Q E s' := by
  have K' := pushX K F hf hk
  have he := (N _ (.head _)).1
  have hin : ∀ en ∈ (env :: outer), ∀ b, en.frame = some b → b ∈ e :: (env :: outer).filterMap (·.frame) := fun en he b hb => .tail _ (List.mem_filterMap.mpr ⟨en, he, hb⟩)
  have hbe : base.get? e = none := fresh_of_stays K.stays (N _ (.head _)).2.2
  have st : base.StaysIn (hideAll s'.heap (e :: (env :: outer).filterMap (·.frame))) := fun b o q => hideAll_get _ (K'.stays b o q) fun hm => by
    rcases List.mem_cons.mp hm with rfl | hm
    · rw [hbe] at q; cases q
    · rw [(K'.frames.mem hm).1] at q; cases q
  have hl : ∀ q ∈ news, (hideAll s'.heap (e :: (env :: outer).filterMap (·.frame))).get? q.1 = some q.2 ∧ base.get? q.1 = none := fun q hq => by
    have Nq := N q (.tail _ hq)
    refine ⟨hideAll_get _ Nq.1 fun hm => ?_, fresh_of_stays K.stays Nq.2.2⟩
    rcases List.mem_cons.mp hm with h9 | hm
    · exact hlt q hq h9
    · obtain ⟨en, he, hf'⟩ := List.mem_filterMap.mp hm
      rcases List.mem_cons.mp he with rfl | he
      · rw [hf] at hf'; exact Nq.2.1 (Option.some.inj hf').symm
      · obtain ⟨o, ho, _⟩ := (K.frames.mem (List.mem_filterMap.mpr ⟨en, he, hf'⟩)).2
        rw [Nq.2.2] at ho; cases ho
  refine wpAny_leaving_firstW (a0 := .ref tp) K'.stack (funFrames_hide K'.frames hin) hf he (fun b o hb => of_hideAll _ hb) (hideAll_none _ (.head _)) rfl rfl rfl fun h' hL => ?_
  obtain ⟨k1, ⟨_, _, k2⟩, k3, k4⟩ := hL
  exact hQ h' ⟨_, .ref tp, st, hl, k1, hideAll_none _ (.head _), k2, k3⟩ ((Heap.UpToSlots.of_keeps F.keep).trans k4)
/-- the end of a while: what stands behind it -/
def WEnd (h₀ : Heap) (L : Addr) (s : Shared) (P : (Str → Option Value) → List (Addr × Obj) → Prop) (s₂ : Shared) : Prop :=
  ∃ h' tk m' nx, s₂ = { s with heap := h', toks := tk } ∧ Fr h₀ L h' m' ∧ News h₀ L h' nx ∧ P m' nx
theorem While_inv3 {prog : Program} {w : World} {A : Around} {E : Value → Shared → Prop} {Q : Flow → Shared → Prop} {s : Shared} {env : Env} {h₀ : Heap} {L : Addr} {test : PySem.Expr} {body : List Stmt} {pos : Pos} {m : Str → Option Value} {news : List (Addr × Obj)}
    (J : Nat → (Str → Option Value) → List (Addr × Obj) → Prop) (P : (Str → Option Value) → List (Addr × Obj) → Prop) {n₀ : Nat}
    (F : Fr h₀ L s.heap m) (N : News h₀ L s.heap news) (hJ : J n₀ m news)
    (turn : ∀ n m₁ news₁ h₁ tk₁, Fr h₀ L h₁ m₁ → News h₀ L h₁ news₁ → J n m₁ news₁ →
      wpAny (model prog w) A (isTrue test env (eval test env)) (fun b s₂ =>
        if b = true then wpAny (model prog w) A (execs body env) (WhileStep2 h₀ L s J Q n) E s₂ else WEnd h₀ L s P s₂) E { s with heap := h₁, toks := tk₁ })
    (rest : ∀ m' nx h' tk, Fr h₀ L h' m' → News h₀ L h' nx → P m' nx → Q .next { s with heap := h', toks := tk })
    (hE : PassesOwn (model prog w) A env E := by passes_own) :
    wpAny (model prog w) A (exec (.While test body [] pos) env) Q E s :=
  While_inv2 J F N hJ (fun n m₁ news₁ h₁ tk₁ F₁ N₁ J₁ => wpAny_mono (turn n m₁ news₁ h₁ tk₁ F₁ N₁ J₁) (fun b s₂ h₂ => by
    cases b with
    | true => exact h₂
    | false =>
      obtain ⟨h', tk, m', nx, rfl, F', N', p⟩ := h₂
      exact rest _ _ _ _ F' N' p) fun _ _ x => x) hE
/-- an exception that flies on through a frame -/
theorem leave_on {M : Model} {A : Around} {E : Value → Shared → Prop} {s' : Shared} {base g g₂ : Heap} {outer : List Env} {L e : Addr} {cls : Value} {m : Str → Option Value} {env : Env} {Q : Unit → Shared → Prop} {news : List (Addr × Obj)}
    (K : Below A base outer g) (F : Fr g L g₂ m) (R : RaisedN base (env :: outer) e cls news s'.heap) (hsm : g₂.UpToSlots s'.heap)
    (hQ : ∀ h', RaisedN base outer e cls news h' → g.UpToSlots h' → Q () { s' with heap := h' }) (hf : env.frame = some L) :
    wpAny M (A.deeper env) (leaving env (.ref e)) Q E s' := by
  obtain ⟨B, a0, hB, hl, hfl⟩ := R
  exact wpAny_leaves_onW (Around.frames_deeper K.stack) hf hfl fun h' x1 x2 => hQ h' ⟨B, a0, hB, hl, x1⟩ ((Heap.UpToSlots.of_keeps F.keep).trans (hsm.trans x2))
theorem look_bytes : typeLookup (.type "bytes") "__bytes__" = pure (some (.builtin "bytes.__bytes__")) := by rw [typeLookup_type, builtinLookup_eq_fast]; kernel_rfl
theorem bytes_new_same {prog : Program} {w : World} {A : Around} {E : Value → Shared → Prop} {s : Shared} {x : Array UInt8} {t : Tok} {Q : Value → Shared → Prop} (hQ : Q (.bytes x t) s) :
    codeAny (model prog w) A (.call (.builtin "bytes.__new__") ⟨[.type "bytes", .bytes x t], []⟩) (wants Q E) s := by
  refine codeAny_of_tree ?_
  show wpAny _ A.in1 (do checkBuiltinCall "bytes.__new__" ⟨[.type "bytes", .bytes x t], []⟩; again (.builtin "bytes.__new__" ⟨[.type "bytes", .bytes x t], []⟩)) _ _ s
  refine wpAny_bind (wpAny_of_eq (F.bm_newCall _) (wpAny_pure ⟨plainId_quiet F.bm_plain _, codeAny_builtin F.bm_entry ?_⟩))
  rw [Around.under_plainId F.bm_plain _]
  unfold Builtin.«bytes.__new__»
  refine wpAny_bind (wpAny_of_eq (a := true) rfl ?_)
  refine bm_if_false rfl ?_
  refine wpAny_bind (wpAny_of_eq F.bm_sub ?_)
  refine bm_if_false rfl ?_
  refine wpAny_bind (wpAny_of_eq (F.bm_bind _) ?_)
  refine wpAny_bind (wpAny_of_eq (a := ()) rfl ?_)
  refine wpAny_bind (wpAny_of_eq (a := ()) rfl ?_)
  refine bm_if_false rfl ?_
  refine wpAny_bind (wpAny_specialOf (typeIs_bytes s x t) look_bytes ?_)
  refine wpAny_bind (wpAny_rule ?_)
  exact wpAny_bind (wpAny_of_eq (a := Value.type "bytes") rfl (wpAny_pure hQ))
theorem bytes_same {prog : Program} {w : World} {A : Around} {E : Value → Shared → Prop} {s : Shared} {x : Array UInt8} {t : Tok} {Q : Value → Shared → Prop} (hQ : Q (.bytes x t) s) :
    wpAny (model prog w) A (call (.type "bytes") [.bytes x t]) Q E s := by
  refine callType_codes (Q₁ := fun obj s₁ => s₁.TypeIs obj "bytes" ∧ Q obj s₁) F.bm_called (F.bm_typeCall _) F.entry_object_init
    (bytes_new_same ⟨typeIs_bytes _ _ _, hQ⟩) fun obj s₁ h₁ => ?_
  exact ⟨h₁.1, F.args_object_init_2 obj _, object_init_meets F.bm_called.init.lookup F.bm_called.made (by decide) prog w A.in1 _ s₁ ⟨h₁.1, rfl, h₁.2⟩⟩
theorem pin1 {m : Str → Option Value} {a : Str} {va : Value} (ha : m a = some va) : ∃ u : Str → Option Value, m = fun y => if y = a then some va else u y := ⟨m, by
  funext y; by_cases h : y = a
  · subst h; simp [ha]
  · simp [h]⟩
theorem pin2 {m : Str → Option Value} {a b : Str} {va vb : Value} (ha : m a = some va) (hb : m b = some vb) : ∃ u : Str → Option Value, m = fun y => if y = a then some va else if y = b then some vb else u y := by
  obtain ⟨u, e⟩ := pin1 hb
  refine ⟨u, ?_⟩
  funext y; by_cases h : y = a
  · subst h; simp [ha]
  · rw [if_neg h]; exact congrFun e y
theorem pin3 {m : Str → Option Value} {a b c : Str} {va vb vc : Value} (ha : m a = some va) (hb : m b = some vb) (hc : m c = some vc) : ∃ u : Str → Option Value, m = fun y => if y = a then some va else if y = b then some vb else if y = c then some vc else u y := by
  obtain ⟨u, e⟩ := pin2 hb hc
  refine ⟨u, ?_⟩
  funext y; by_cases h : y = a
  · subst h; simp [ha]
  · rw [if_neg h]; exact congrFun e y
theorem pin4 {m : Str → Option Value} {a b c d : Str} {va vb vc vd : Value} (ha : m a = some va) (hb : m b = some vb) (hc : m c = some vc) (hd : m d = some vd) : ∃ u : Str → Option Value, m = fun y => if y = a then some va else if y = b then some vb else if y = c then some vc else if y = d then some vd else u y := by
  obtain ⟨u, e⟩ := pin3 hb hc hd
  refine ⟨u, ?_⟩
  funext y; by_cases h : y = a
  · subst h; simp [ha]
  · rw [if_neg h]; exact congrFun e y
theorem For_F {prog : Program} {w : World} {A : Around} {E : Value → Shared → Prop} {Q : Flow → Shared → Prop} {s : Shared} {env : Env} {h₀ : Heap} {L : Addr} {m : Str → Option Value} {x : Str} {px pos : Pos} {iter : PySem.Expr} {body : List Stmt} (_F : Fr h₀ L s.heap m) (hx : env.kindOf x = some .local)
    (hp : (env.scope.kind == .class || (env.scope.kind == .module && env.locals != env.globals)) = false)
    (h : wpAny (model prog w) A (eval iter env) (fun xv s₁ => wpAny (model prog w) A (pyIter xv) (fun it s₂ => LoopAtV prog w A h₀ env x body Q E it s₂) E s₁) E s)
    (hs : ∀ x, foldedSetIterable iter env x = pure x := by intro _; rfl)
    (hE : PassesOwn (model prog w) A env E := by passes_own) :
    wpAny (model prog w) A (exec (.For (.Name x px) iter body [] pos) env) Q E s := For_invV h₀ hx hp h hs hE
theorem slice_L {prog : Program} {w : World} {A : Around} {E : Value → Shared → Prop} {s : Shared} {value slice : PySem.Expr} {x y : List UInt8} {t : Tok} {h₀ : Heap} {L : Addr} {m : Str → Option Value} {news : List (Addr × Obj)} {l u : Value} {lo hi : Option Int} {Q : Value → Shared → Prop}
    (hF : Fr h₀ L s.heap m) (hN : News h₀ L s.heap news) (hl : IsPart l lo) (hu : IsPart u hi) (hz : x.length ≤ 1000000)
    (e : (x.drop (lo.elim 0 (clipAt x.length))).take (hi.elim x.length (clipAt x.length) - lo.elim 0 (clipAt x.length)) = y)
    (h : ∀ h' t' k, Fr h₀ L h' m → News h₀ L h' news → Q (.bytes y.toArray t') { s with heap := h', toks := k })
    (hs : subscripted slice false (.bytes x.toArray t) (.ref s.heap.objs.size) = operate [.ref s.heap.objs.size, .bytes x.toArray t] (getItem (.bytes x.toArray t) (.ref s.heap.objs.size)) := by with_unfolding_all rfl)
    (ht : ∀ r, letTemporaryGo value (.bytes x.toArray t) r = pure () := by intro _; with_unfolding_all rfl) :
    wpAny (model prog w) A (subscriptTail value slice (.bytes x.toArray t) (.ref s.heap.objs.size)) Q E { s with heap := s.heap.push { cls := .type "slice", data := .fields #[l, u, .none] } } := by
  refine KBc.slice_K hF hN rfl hl hu (by rw [KBw.ints_length]; simpa using (show x.length ≤ 16777216 by omega)) (fun h' t' k F' N' _ => ?_) hs ht
  have := h h' t' k F' N'
  rw [← e] at this
  rw [KBc.picked_eq, List.size_toArray]
  exact this
end
local macro_rules | `(tactic| walk_at "n2") => `(tactic| (fail_if_success (with_reducible show wpAny _ _ (exec (PySem.Stmt.Raise _ _ _) _) _ _ _)))
local macro_rules | `(tactic| walk_at "s1") => `(tactic| (k_here; k_dflt (refine' item_by ?f ?a ?b ?_; (case f | a | b => omega); k_whole); first | (rename ((_ : List UInt8)[_]? = some _) => hc0; intro c' hc' tk'; have e9 := Option.some.inj (hc0.symm.trans hc'); subst e9; clear hc') | (intro c' hc' tk')))
local macro_rules | `(tactic| walk_at "s2") => `(tactic| (k_here; (with_reducible show wpAny _ _ (PySem.call (Value.ref 65) _) _ _ _); k_dflt (refine' skip_spec ?B ?F ?X ?N ?T ?K ?hi ?hi2 ?hos ?hd ?hu ?_; (case B | F | X | N | T => k_asm); (case K => first | exact rfl | assumption); (case hi | hi2 | hos => omega); (case hd => walk_at "rm"); (case hu => walk_at "un"); k_whole); intro t' h' tk' F' N'; (try k_sweep); (try k_fold)))
section
open PySem PySem.W PyProof.Rows PySem.Calls
set_option maxRecDepth 100000
theorem filled7 : Mine.hd.heap_39 = Mine.hd.heap_39 ∧ PySem.Challenge.rw_ok0124_01 = PySem.Challenge.rw_ok0124_01 := by
  k_fill; exact ⟨rfl, rfl⟩
local macro_rules | `(tactic| walk_at "no loop") => `(tactic| ((walk_at "n0"); (walk_at "n1"); (walk_at "n2")))
local macro_rules | `(tactic| walk_at "subscriptTail Name Name bytes int") => `(tactic| walk_at "s1")
local macro_rules | `(tactic| walk_at "call type:bytes") => `(tactic| ((with_reducible show wpAny _ _ (PySem.call (Value.type _) [Value.bytes _ _]) _ _ _); refine bytes_same ?_))
local macro_rules | `(tactic| walk_at "compareOp In int bytes") => `(tactic| (refine in_blanks ?_))
local macro_rules | `(tactic| walk_at "compareOp NotIn int bytes") => `(tactic| (refine notIn_blanks ?_))
local macro_rules | `(tactic| walk_at "call ref") => `(tactic| walk_at "s2")
local macro_rules | `(tactic| walk_at "call ref") => `(tactic| (k_here; (with_reducible show wpAny _ _ (PySem.call (Value.ref 44) _) _ _ _); k_dflt (refine' exc44 ?B ?F ?X ?N ?T ?K ?hd ?hu ?_; (case B | F | X | N | T => k_asm); (case K => first | exact rfl | assumption); (case hd => walk_at "rm"); (case hu => walk_at "un"); k_whole); intro e' tp' dx' h' tk' F' N' l1; (try k_sweep); (try k_fold)))
abbrev tupO (vs : List Value) : Obj := { cls := .type "tuple", data := .seq vs.toArray }
theorem skL_le : ∀ (n : Nat) (l : List UInt8), l.length ≤ n → skL l ≤ l.length ∧ skR l ≤ l.length
  | 0, l, h => by cases l with
    | nil => exact ⟨Nat.le_refl _, Nat.le_refl _⟩
    | cons _ _ => simp at h
  | n + 1, l, h => by
    cases l with
    | nil => exact ⟨Nat.le_refl _, Nat.le_refl _⟩
    | cons c r =>
      have ih := skL_le n r (by simp at h; lia)
      refine ⟨?_, ?_⟩
      · rw [skL]; split
        · simp; lia
        · split
          · simp; lia
          · lia
      · rw [skR]; split <;> simp <;> lia
theorem skF_le {o : List UInt8} {i : Nat} (h : i ≤ o.length) : skF o i ≤ o.length := by
  have := (skL_le _ (o.drop i) (Nat.le_refl _)).1
  unfold skF; simp at this; lia
theorem skF_ge {o : List UInt8} {i : Nat} : i ≤ skF o i := Nat.le_add_right _ _
theorem enL_le : ∀ l : List UInt8, enL l ≤ l.length
  | [] => Nat.le_refl _
  | c :: r => by
    rw [enL]; split
    · lia
    · have := enL_le r; simp; lia
theorem enF_le {o : List UInt8} {i : Nat} (h : i ≤ o.length) : enF o i ≤ o.length := by
  have := enL_le (o.drop i)
  unfold enF; simp at this; lia
theorem enF_ge {o : List UInt8} {i : Nat} : i ≤ enF o i := Nat.le_add_right _ _
theorem en_go {o : List UInt8} {k : Nat} {c : UInt8} (h : o[k]? = some c) (hb : isBl c = false) (hn : c ≠ 35) : enF o k = enF o (k + 1) := by
  unfold enF; rw [drop_of h, enL]; simp [hn, hb]; lia
theorem en_bl {o : List UInt8} {k : Nat} {c : UInt8} (h : o[k]? = some c) (hb : isBl c = true) : enF o k = k := by
  unfold enF; rw [drop_of h, enL]; simp [hb]
theorem en_35 {o : List UInt8} {k : Nat} (h : o[k]? = some 35) : enF o k = k := by
  unfold enF; rw [drop_of h, enL]; simp
theorem en_end {o : List UInt8} {k : Nat} (h : o.length ≤ k) : enF o k = k := by
  unfold enF; rw [List.drop_eq_nil_of_le h]; rfl
theorem upd_mid {α β : Type} [DecidableEq α] {a b : α} {v0 v1 v2 : β} {f : α → β} : (fun y => if y = a then v0 else if y = b then v1 else if y = b then v2 else f y) = fun y => if y = a then v0 else if y = b then v1 else f y := by
  funext y; by_cases h : y = b <;> simp [h]
set_option maxHeartbeats 8000000 in
theorem nword_spec {prog : Program} {w : World} {p : Program} {loose : List Str} {mean : ExcName → Option Value} {mg mb : Str → Option Value} {dp un : Nat} {gd : Option (List Code)} {cn : Str} {cs : Scope} {fa : Addr} {ccd : Value} {cl : List (Str × Addr)} {outer : List Env} {A₀ : Around} {base h₀ : Heap} {L : Addr} {m : Str → Option Value} {s : Shared} {Q E : Value → Shared → Prop}
    {news : List (Addr × Obj)} {o : List UInt8} {to ta : Tok} {i : Int} {b e : Nat}
    (B : Below A₀ base outer h₀) (F : Fr h₀ L s.heap m) (X : (Mine.hd.heap_39 w.params).In h₀) (N : News h₀ L s.heap news) (T : Top p loose mean mg mb h₀) (hk : cs.kind = .function)
    (hi : 0 ≤ i) (hi2 : i ≤ o.length) (hos : o.length < 100000) (hb : b = skF o i.toNat) (he : e = enF o b) (hd : dp + 6 < recursionLimit) (hu : un + 48 < cLine)
    (ret : b ≠ e → ∀ t tb te h' tk', Fr h₀ L h' m → News h₀ L h' ((t, tupO [.bytes ((o.drop b).take (e - b)).toArray tb, .int e te]) :: news) → (∀ p ∈ news, p.1 < t) → Q (.ref t) { s with heap := h', toks := tk' })
    (exc : b = e → ∀ x h' tk' g₂, Fr h₀ L g₂ m → RaisedN base (envX cn cs L fa ccd cl :: outer) x (.ref 44) news h' → g₂.UpToSlots h' → E (.ref x) { s with heap := h', toks := tk' }) :
    wpAny (model prog w) (ktrTop dp un gd cn cs L fa ccd cl outer) (call (.ref 72) [.bytes o.toArray to, .int i ta]) Q E s := by
  refine wpAny_call ?_
  k_dflt cell_enter
  clear N F
  rename Fr _ _ _ _ => F1
  replace F1 := lk2 F1
  walk_at "st"
  rename Fr _ _ _ _ => F1
  rename News _ _ _ _ => N1
  rw [← hb] at F1
  have hbl : b ≤ o.length := by rw [hb]; exact skF_le (by lia)
  refine While_inv3 (fun n m₁ nx => nx = news ∧ ∃ (k : Int) (t u : Tok), b ≤ k ∧ k ≤ o.length ∧ n = (o.length - k).toNat ∧ enF o k.toNat = e ∧ m₁ = fun y => if y = ("end" : Str) then some (.int k t) else if y = ("at" : Str) then some (.int b u) else if y = ("octets" : Str) then some (.bytes o.toArray to) else none)
    (fun m₁ nx => nx = news ∧ ∃ (t u : Tok), m₁ = fun y => if y = ("end" : Str) then some (.int e t) else if y = ("at" : Str) then some (.int b u) else if y = ("octets" : Str) then some (.bytes o.toArray to) else none) F1 N1 ⟨rfl, b, _, _, Int.le_refl _, by lia, rfl, he.symm, upd_mid⟩ ?_ ?_
  · clear F1 N1
    rintro n m₁ nx h₁ tk₁ F1 N1 ⟨rfl, k, t, u, hk0, hk1, rfl, hK, rfl⟩
    have hkn : ((k.toNat : Nat) : Int) = k := by lia
    walk_at "st"
    · exact ⟨_, _, _, _, rfl, F1, N1, rfl, t, u, by rw [← hK, en_bl (by assumption) (by assumption), hkn]⟩
    · rename Fr _ _ _ _ => F1
      rename News _ _ _ _ => N1
      exact ⟨_, _, _, _, _, rfl, F1, N1, by simp only [List.size_toArray] at *; lia, rfl, k + 1, _, u, by lia, by simp only [List.size_toArray] at *; lia, rfl, (by rw [← hK, toNat1 (by lia)]; exact (en_go (by assumption) (by assumption) (n35 (by assumption))).symm), upd_upd⟩
    · rename_i h35
      rename ((o : List UInt8)[k.toNat]? = some _) => hc
      rw [c35 h35] at hc
      exact ⟨_, _, _, _, rfl, F1, N1, rfl, t, u, by rw [← hK, en_35 hc, hkn]⟩
    · exact ⟨_, _, _, _, rfl, F1, N1, rfl, t, u, by rw [← hK, en_end (by simp only [List.size_toArray] at *; lia), hkn]⟩
  clear F1 N1
  rintro m₁ nx h₁ tk₁ F1 N1 ⟨rfl, t, u, rfl⟩
  walk_at "st"
  · refine exec_raise (C := 44) rfl ?_
    walk_at "st"
    rename Fr _ _ _ _ => F2
    rename News _ _ _ _ => N2
    rename (∀ (p : Addr × Obj), p ∈ nx → p.1 < _) => l2
    rename Below _ _ _ _ => B2
    rename Frag.In _ _ => X2
    rename Fr h₀ L _ m => FG
    refine ⟨_, _, _, _, _, _, rfl, (X2.keeps F2.keep) 44 _ (by k_is), by decide, (N2 _ (.head _)).1, ?_⟩
    exact leave_exc B2 F2 N2 (fun p hp => Nat.ne_of_lt (l2 p hp)) (fun h'' R U => exc (by lia) _ _ _ _ FG R U) rfl rfl
  · have hle : e ≤ o.length := by rw [he]; exact enF_le hbl
    have hbe : b ≤ e := by rw [he]; exact enF_ge
    refine slice_L (x := o) (y := (o.drop b).take (e - b)) F1 N1 (.int _ _) (.int _ _) (by lia) (by simp only [Option.elim_some, clipAt_nat]; rw [Nat.min_eq_left hbl, Nat.min_eq_left hle]) ?_
    clear F1 N1
    intro h2 t2 k2 F1 N1
    walk_at "st"
    rename Fr _ _ _ _ => F2
    rename News _ _ _ _ => N2
    rename (∀ (p : Addr × Obj), p ∈ nx → p.1 < _) => l2
    exact ret (by lia) _ _ _ _ _ F2 N2 l2
end
section
open PySem PySem.W PyProof.Rows PySem.Calls
set_option maxRecDepth 100000
section
variable {prog : Program} {w : World} {A : Around} {E : Value → Shared → Prop} {s : Shared} {env : Env} {x : Str} {p1 p2 p3 p4 : Pos} {k : Int} {u : Tok} {m : Str → Option Value}
theorem dig_cmp {Q : Value → Shared → Prop} (hk : env.scope.kind = .function) (hl : env.kindOf x = some .local) (hn : s.heap.Ns env.locals m) (hv : m x = some (.int k u)) (hd : (x == ("__debug__" : Str)) = false)
    (h : ∀ tk, Q (.bool (decide (48 ≤ k) && decide (k ≤ 57))) { s with toks := tk }) :
    wpAny (model prog w) A (eval (.Compare (.Constant (.int 48) 0 p1) [.LtE, .LtE] [.Name x p2, .Constant (.int 57) 0 p3] p4) env) Q E s := by
  refine Compare_chain (wpAny_Constant_int (chain_link (wpAny_Name (wpAny_loadName_local hk hl hn hv (PyProof.Rows.le_int (wpAny_truthy_bool ?_))) hd)))
  by_cases h1 : 48 ≤ k
  · simp only [h1, decide_true, if_true]
    refine chain_last (wpAny_Constant_int (PyProof.Rows.le_int ?_))
    simpa [h1] using h _
  · simp only [h1, decide_false, Bool.false_eq_true, if_false]
    simpa [h1] using h _
theorem dig_test {Q : Bool → Shared → Prop} (hk : env.scope.kind = .function) (hl : env.kindOf x = some .local) (hn : s.heap.Ns env.locals m) (hv : m x = some (.int k u)) (hd : (x == ("__debug__" : Str)) = false)
    (h : ∀ tk, Q (decide (48 ≤ k) && decide (k ≤ 57)) { s with toks := tk }) :
    wpAny (model prog w) A (isTrue (.Compare (.Constant (.int 48) 0 p1) [.LtE, .LtE] [.Name x p2, .Constant (.int 57) 0 p3] p4) env (eval (.Compare (.Constant (.int 48) 0 p1) [.LtE, .LtE] [.Name x p2, .Constant (.int 57) 0 p3] p4) env)) Q E s := by
  refine isTrue_chain (wpAny_Constant_int (test_link (wpAny_Name (wpAny_loadName_local hk hl hn hv (PyProof.Rows.le_int (wpAny_truthy_bool ?_))) hd)))
  by_cases h1 : 48 ≤ k
  · simp only [h1, decide_true, if_true]
    refine test_last (wpAny_Constant_int (PyProof.Rows.le_int (wpAny_truthy_bool ?_)))
    simpa [h1] using h _
  · simp only [h1, decide_false, Bool.false_eq_true, if_false]
    simpa [h1] using h _
end
def isDig (c : UInt8) : Bool := decide (48 ≤ (c.toNat : Int)) && decide ((c.toNat : Int) ≤ 57)
theorem paired_map {α β : Type} {F : α → β → Prop} {g : α → β} : ∀ {l : List α} {r : List β}, Paired F l r → (∀ a b, F a b → b = g a) → r = l.map g
  | _, _, .nil, _ => rfl
  | _, _, .cons h r, e => by rw [List.map_cons, e _ _ h, paired_map r e]
theorem paired_bytes {β : Type} {F : Value → β → Prop} {g : UInt8 → β} : ∀ {o : List UInt8} {vs : List Value} {ys : List β}, Paired F vs ys → vs.length = o.length →
    (∀ (j : Nat) (v : Value), vs[j]? = some v → ∃ (c : UInt8) (u : Tok), o.toArray[j]? = some c ∧ v = Value.int (c.toNat : Int) u) → (∀ (c : UInt8) u b, F (.int (c.toNat : Int) u) b → b = g c) → ys = o.map g
  | [], _, _, .nil, _, _, _ => rfl
  | [], _, _, .cons _ _, h1, _, _ => by cases h1
  | _ :: _, _, _, .nil, h1, _, _ => by cases h1
  | c :: r, _, _, .cons (a := a) (l₁ := l₁) hab P, h1, h2, hF => by
    obtain ⟨c', u, hc, rfl⟩ := h2 0 a rfl
    have e : c' = c := by simpa using hc.symm
    subst e
    rw [List.map_cons, hF _ _ _ hab, paired_bytes P (by simpa using h1) (fun j v hj => by
      obtain ⟨c, u, hc, e⟩ := h2 (j + 1) v (by simpa using hj)
      exact ⟨c, u, by simpa using hc, e⟩) hF]
theorem comp_dig {prog : Program} {w : World} {A : Around} {E : Value → Shared → Prop} {s : Shared} {env : Env} {x y : Str} {px py p1 p2 p3 p4 pos : Pos} {o : List UInt8} {to : Tok} {h₀ : Heap} {L : Addr} {m : Str → Option Value} {news : List (Addr × Obj)} {scope : Scope} {Q : Value → Shared → Prop}
    (hh : A.handled = none) (F : Fr h₀ L s.heap m) (N : News h₀ L s.heap news) (hz : o.length < 100000)
    (hy : ∀ (Q' : Value → Shared → Prop), Q' (.bytes o.toArray to) s → wpAny (model prog w) A (eval (.Name y py) env) Q' E s)
    (hfree : ∀ y ∈ scope.names, y.2 ≠ .free) (hcell : ∀ y ∈ scope.names, y.2 ≠ .cell) (hkind : scope.kind = .function)
    (hnames : ∀ y ∈ scope.names, y.2 = .local → scope.names.lookup y.1 = some .local) (hx : scope.names.lookup x = some .local) (hd : (x == ("__debug__" : Str)) = false)
    (h : ∀ D n h' tk, Fr h₀ L h' m → News h₀ L h' ((D, lstO (o.map fun c => Value.bool (isDig c)) n) :: news) → (∀ p ∈ news, p.1 ≠ D) → Q (.ref D) { s with heap := h', toks := tk }) :
    wpAny (model prog w) A (eval (.ListComp (.Compare (.Constant (.int 48) 0 p1) [.LtE, .LtE] [.Name x p2, .Constant (.int 57) 0 p3] p4) [⟨.Name x px, .Name y py, [], 0⟩] scope pos) env) Q E s := by
  refine wpAny_ListComp_walk (p := fun _ => true) (F := fun v b => ∀ k u, v = .int k u → b = .bool (decide (48 ≤ k) && decide (k ≤ 57))) hfree hcell hkind hnames hx (hy _ (KBw.pyIter_bytes ?_))
  refine ⟨s.heap.objs.size, [s.heap.objs.size], [s.heap.objs.size], o.toArray.size, _, _, rfl, KBw.walks hh s.heap.objs.size o.toArray to, ?_, ⟨_, Heap.get?_push_size _ rfl, rfl, rfl⟩, ?_, ⟨?_, ?_⟩, ?_⟩
  · rw [sizeLine_eq, List.size_toArray]; omega
  · intro b hb; rw [List.mem_singleton.mp hb]; exact Heap.lt_size (Heap.get?_push_size _ rfl)
  · intro C i v s₃ m₃ E' _ _ _ _ _
    exact wpAny_pure ⟨rfl, s₃.heap, s₃.toks, rfl, fun _ _ e => e⟩
  · rintro C i v s₃ m₃ E' ⟨c, u, hc, rfl⟩ _ hn hv _ _
    refine dig_cmp (env := compEnv scope C env) hkind (by show Env.kindOf (compEnv scope C env) x = _; unfold Env.kindOf compEnv; exact hx) hn hv hd fun tk => ⟨?_, s₃.heap, tk, rfl, fun _ _ e => e⟩
    intro k u' e; cases e; rfl
  · intro D h' tk ys vs hD hl hpl hlen hP hF hk
    have hkeep : ∀ b o', s.heap.get? b = some o' → h'.get? b = some o' := fun b o' e => hk b o' (fun hm => Nat.ne_of_lt (Heap.lt_size e) (List.mem_singleton.mp hm)) (Heap.get?_push_of_some _ e)
    obtain ⟨n, hpl⟩ := hpl
    have hold : ∀ b o', s.heap.get? b = some o' → b ≠ D := fun b o' e q => by
      have h9 : (s.heap.push { cls := .type "bytes_iterator", data := .fields #[.bytes o.toArray to, .int 0 0] }).get? b = some o' := Heap.get?_push_of_some _ e
      rw [q, hD] at h9; cases h9
    have hys : ys.toList = o.map fun c => Value.bool (isDig c) := by
      have hft : vs.filter (fun _ => true) = vs := by simp
      rw [hft] at hF
      exact paired_bytes hF (by simpa using hlen) hP fun c u b hb => hb _ _ rfl
    refine h D n h' tk (F.keeps hkeep) (fun p hp => ?_) (fun p hp => hold _ _ (N p hp).1)
    rcases List.mem_cons.mp hp with rfl | hp
    · obtain ⟨oL, _, _, hL, _⟩ := F.ns
      refine ⟨?_, Ne.symm (hold _ _ hL), ?_⟩
      · rw [hpl, ← hys]
      · cases q : h₀.get? D with
        | none => rfl
        | some o' => exact absurd rfl (hold D o' (F.keep D o' q))
    · exact ⟨hkeep _ _ (N p hp).1, (N p hp).2⟩
end
local macro_rules | `(tactic| walk_at "n3") => `(tactic| (fail_if_success (with_reducible show wpAny _ _ (eval (PySem.Expr.ListComp _ _ _ _) _) _ _ _)))
local macro_rules | `(tactic| walk_at "s3") => `(tactic| (k_here; (with_reducible show wpAny _ _ (PySem.call (Value.ref 56) _) _ _ _); k_dflt (refine' exc56 ?B ?F ?X ?N ?T ?K ?hd ?hu ?_; (case B | F | X | N | T => k_asm); (case K => first | exact rfl | assumption); (case hd => walk_at "rm"); (case hu => walk_at "un"); k_whole); intro e' tp' dx' h' tk' F' N' l1; (try k_sweep); (try k_fold)))
section
open PySem PySem.W PyProof.Rows PySem.Calls
set_option maxRecDepth 100000
theorem filled8 : Mine.hd.heap_39 = Mine.hd.heap_39 ∧ PySem.Challenge.rw_ok0124_01 = PySem.Challenge.rw_ok0124_01 := by
  k_fill; exact ⟨rfl, rfl⟩
local macro_rules | `(tactic| walk_at "no loop") => `(tactic| ((walk_at "n0"); (walk_at "n1"); (walk_at "n2"); (walk_at "n3")))
local macro_rules | `(tactic| walk_at "call ref") => `(tactic| walk_at "s3")
def valL (l : List UInt8) : Int := l.foldl (fun a c => a * 10 + c.toNat - 48) 0
local macro_rules | `(tactic| walk_at "feq") => `(tactic| ((funext y; repeat' split) <;> first | rfl | (exfalso; simp_all (decide := true); done) | simp_all))
theorem valL_snoc {o : List UInt8} {j : Nat} {c : UInt8} (h : o[j]? = some c) : valL (o.take (j + 1)) = valL (o.take j) * 10 + c.toNat - 48 := by
  unfold valL
  rw [List.take_add_one, h]
  simp [List.foldl_append]
theorem boolsAre {o : List UInt8} : LSm.BoolsAre (o.map fun c => Value.bool (isDig c)) (o.map isDig) := by
  induction o with
  | nil => exact LSm.BoolsAre.nil
  | cons c r ih => exact LSm.BoolsAre.cons _ ih
set_option maxHeartbeats 8000000 in
theorem numof_spec {prog : Program} {w : World} {p : Program} {loose : List Str} {mean : ExcName → Option Value} {mg mb : Str → Option Value} {dp un : Nat} {gd : Option (List Code)} {cn : Str} {cs : Scope} {fa : Addr} {ccd : Value} {cl : List (Str × Addr)} {outer : List Env} {A₀ : Around} {base h₀ : Heap} {L : Addr} {m : Str → Option Value} {s : Shared} {Q E : Value → Shared → Prop}
    {news : List (Addr × Obj)} {o : List UInt8} {to : Tok}
    (B : Below A₀ base outer h₀) (F : Fr h₀ L s.heap m) (X : (Mine.hd.heap_39 w.params).In h₀) (N : News h₀ L s.heap news) (T : Top p loose mean mg mb h₀) (hk : cs.kind = .function)
    (hos : o.length < 100000) (hd : dp + 6 < recursionLimit) (hu : un + 48 < cLine)
    (ret : o.length ≤ 9 → o.all isDig = true → ∀ t h' tk', Fr h₀ L h' m → News h₀ L h' news → Q (.int (valL o) t) { s with heap := h', toks := tk' })
    (exc : (9 < o.length ∨ o.all isDig = false) → ∀ x h' tk' g₂, Fr h₀ L g₂ m → RaisedN base (envX cn cs L fa ccd cl :: outer) x (.ref 56) news h' → g₂.UpToSlots h' → E (.ref x) { s with heap := h', toks := tk' }) :
    wpAny (model prog w) (ktrTop dp un gd cn cs L fa ccd cl outer) (call (.ref 77) [.bytes o.toArray to]) Q E s := by
  refine wpAny_call ?_
  k_dflt cell_enter
  clear N F
  rename Fr _ _ _ _ => F1
  replace F1 := lk1 F1
  replace F1 : Fr _ _ _ (fun y => if y = ("word" : Str) then some (.bytes o.toArray to) else none) := F1
  walk_at "st"
  · refine exec_raise (C := 56) rfl ?_
    walk_at "st"
    rename Fr _ _ _ _ => F2
    rename News _ _ _ _ => N2
    rename (∀ (p : Addr × Obj), p ∈ _ → p.1 < _) => l2
    rename Below _ _ _ _ => B2
    rename Frag.In _ _ => X2
    rename Fr h₀ L _ m => FG
    refine ⟨_, _, _, _, _, _, rfl, (X2.keeps F2.keep) 56 _ (by k_is), by decide, (N2 _ (.head _)).1, ?_⟩
    exact leave_exc B2 F2 N2 (fun p hp => Nat.ne_of_lt (l2 p hp)) (fun h'' R U => exc (by simp only [List.size_toArray] at *; omega) _ _ _ _ FG R U) rfl rfl
  rename News _ _ _ _ => N1
  rename Fr _ _ _ (fun y => ite _ _ _) => F1
  refine comp_dig (o := o) (to := to) rfl F1 N1 hos (fun Q' hq => ?_) (by decide) (by decide) rfl (by decide) rfl (by decide) ?_
  · k_dflt (refine' ld ?k1 ?k2 ?_; (case k1 => k_asm); (case k2 => exact rfl))
    exact hq
  clear F1 N1
  intro D n h1 tk1 F1 N1 hD
  walk_at "st"
  refine LSm.all_bools F1 N1 rfl ⟨_, (N1 _ (.head _)).1, rfl, n, rfl⟩ boolsAre ?_
  clear F1 N1
  intro h2 tk2 F1 N1
  replace N1 := news_drop N1
  walk_at "st"
  · rename (List.map isDig o).all id = true => hall
    replace hall : o.all isDig = true := by rw [List.all_map] at hall; exact hall
    rename Fr _ _ _ (fun y => ite _ _ _) => F1
    rename News _ _ _ _ => N1
    refine For_F F1 rfl rfl ?_
    walk1
    refine KBmo.iter_bytesN (ks := KBw.bInts o.toArray) (fun i m₁ nx => nx = news ∧ (∃ t : Tok, m₁ "found" = some (.int (valL (o.take i)) t)) ∧ m₁ "word" = some (.bytes o.toArray to)) rfl rfl F1 N1 ⟨rfl, ⟨_, rfl⟩, rfl⟩ ?_ ?_
    · clear F1 N1
      rintro j k t m₁ nx h3 tk3 own hk _ _ hoff ⟨rfl, ⟨t', hm1⟩, hm2⟩ F1 N1
      obtain ⟨u, rfl⟩ := pin2 hm1 hm2
      clear hm1 hm2
      unfold KBw.bInts at hk
      rw [List.getElem?_map] at hk
      obtain ⟨c, hc, rfl⟩ := Option.map_eq_some_iff.mp hk
      walk_at "st"
      rename Fr _ _ _ _ => F2
      rename News _ _ _ _ => N2
      exact InvEndN.intro (nx := nx) F2 N2 ⟨rfl, ⟨_, by rw [valL_snoc hc]; rfl⟩, rfl⟩ rfl (fun p hp => List.mem_append_left _ hp) (fun p hp => List.mem_append_right _ hp)
    · clear F1 N1
      rintro m₁ nx h3 tk3 ⟨rfl, ⟨t', hm1⟩, hm2⟩ F1 N1
      obtain ⟨u, rfl⟩ := pin2 hm1 hm2
      clear hm1 hm2
      walk_at "st"
      rename Fr _ _ _ _ => F2
      rename News _ _ _ _ => N2
      refine ret' (x := valL o) (ret (by simp only [List.size_toArray] at *; omega) hall) ?_ F2 N2
      rw [KBw.ints_length, List.size_toArray, List.take_length]
  · refine exec_raise (C := 56) rfl ?_
    walk_at "st"
    rename Fr _ _ _ _ => F2
    rename News _ _ _ _ => N2
    rename (∀ (p : Addr × Obj), p ∈ _ → p.1 < _) => l2
    rename Below _ _ _ _ => B2
    rename Frag.In _ _ => X2
    rename Fr h₀ L _ m => FG
    refine ⟨_, _, _, _, _, _, rfl, (X2.keeps F2.keep) 56 _ (by k_is), by decide, (N2 _ (.head _)).1, ?_⟩
    exact leave_exc B2 F2 N2 (fun p hp => Nat.ne_of_lt (l2 p hp)) (fun h'' R U => exc (.inr (by rename (List.map isDig o).all id = false => hall; rw [List.all_map] at hall; exact hall)) _ _ _ _ FG R U) rfl rfl
end
section
local macro_rules | `(tactic| walk_at "pad") => `(tactic| skip)
open PySem PySem.W PyProof.Rows PySem.Calls
set_option maxRecDepth 100000
theorem filled9 : Mine.hd.heap_39 = Mine.hd.heap_39 ∧ PySem.Challenge.rw_ok0124_01 = PySem.Challenge.rw_ok0124_01 := by
  k_fill; exact ⟨rfl, rfl⟩
local macro_rules | `(tactic| walk_at "no loop") => `(tactic| ((walk_at "n0"); (walk_at "n1"); (walk_at "n2"); (walk_at "n3")))
local macro_rules | `(tactic| walk_at "call ref") => `(tactic| (k_here; (with_reducible show wpAny _ _ (PySem.call (Value.ref 72) _) _ _ _); k_dflt (refine' nword_spec ?B ?F ?X ?N ?T ?K ?hi ?hi2 ?hos rfl rfl ?hd ?hu ?_ ?_; (case B | F | X | N | T => k_asm); (case K => first | exact rfl | assumption); (case hi | hi2 | hos => omega); (case hd => walk_at "rm"); (case hu => walk_at "un")); first | (intro hbe' t' tb' te' h' tk' F' N' l1; (try k_sweep); (try k_fold)) | skip))
local macro_rules | `(tactic| walk_at "call ref") => `(tactic| (k_here; (with_reducible show wpAny _ _ (PySem.call (Value.ref 77) _) _ _ _); k_dflt (refine' numof_spec ?B ?F ?X ?N ?T ?K ?hos ?hd ?hu ?_ ?_; (case B | F | X | N | T => k_asm); (case K => first | exact rfl | assumption); (case hos => first | omega | (simp only [List.length_take, List.length_drop]; omega)); (case hd => walk_at "rm"); (case hu => walk_at "un")); first | (intro hlen' hall' t' h' tk' F' N'; (try k_sweep); (try k_fold)) | skip))
theorem raised_drop {base : Heap} {l : List Env} {e : Addr} {cls : Value} {q : Addr × Obj} {news : List (Addr × Obj)} {h : Heap} (R : RaisedN base l e cls (q :: news) h) : RaisedN base l e cls news h := by
  obtain ⟨B, a0, hB, hl, hfl⟩ := R
  exact ⟨B, a0, hB, fun p hp => hl p (.tail _ hp), hfl⟩
theorem allLt_get {D : Addr} : ∀ {l : List (Addr × Obj)}, AllLt D l → ∀ p ∈ l, p.1 < D
  | [], _, _, h => nomatch h
  | _ :: _, h, p, hp => (List.mem_cons.mp hp).elim (fun e => e ▸ h.1) (allLt_get h.2 p)
def wdF (o : List UInt8) (b e : Nat) : List UInt8 := (o.drop b).take (e - b)
set_option maxHeartbeats 8000000 in
theorem nnum_spec {prog : Program} {w : World} {p : Program} {loose : List Str} {mean : ExcName → Option Value} {mg mb : Str → Option Value} {dp un : Nat} {gd : Option (List Code)} {cn : Str} {cs : Scope} {fa : Addr} {ccd : Value} {cl : List (Str × Addr)} {outer : List Env} {A₀ : Around} {base h₀ : Heap} {L : Addr} {m : Str → Option Value} {s : Shared} {Q E : Value → Shared → Prop}
    {news : List (Addr × Obj)} {o : List UInt8} {to ta : Tok} {i : Int} {b e : Nat}
    (B : Below A₀ base outer h₀) (F : Fr h₀ L s.heap m) (X : (Mine.hd.heap_39 w.params).In h₀) (N : News h₀ L s.heap news) (T : Top p loose mean mg mb h₀) (hk : cs.kind = .function)
    (hi : 0 ≤ i) (hi2 : i ≤ o.length) (hos : o.length < 100000) (hb : b = skF o i.toNat) (he : e = enF o b) (hd : dp + 8 < recursionLimit) (hu : un + 72 < cLine)
    (ret : b ≠ e → (wdF o b e).length ≤ 9 → (wdF o b e).all isDig = true → ∀ t tb te h' tk', Fr h₀ L h' m → News h₀ L h' ((t, tupO [.int (valL (wdF o b e)) tb, .int e te]) :: news) → (∀ p ∈ news, p.1 < t) → Q (.ref t) { s with heap := h', toks := tk' })
    (exc : b = e → ∀ x h' tk' g₂, Fr h₀ L g₂ m → RaisedN base (envX cn cs L fa ccd cl :: outer) x (.ref 44) news h' → g₂.UpToSlots h' → E (.ref x) { s with heap := h', toks := tk' })
    (exc2 : b ≠ e → (9 < (wdF o b e).length ∨ (wdF o b e).all isDig = false) → ∀ x h' tk' g₂, Fr h₀ L g₂ m → RaisedN base (envX cn cs L fa ccd cl :: outer) x (.ref 56) news h' → g₂.UpToSlots h' → E (.ref x) { s with heap := h', toks := tk' }) :
    wpAny (model prog w) (ktrTop dp un gd cn cs L fa ccd cl outer) (call (.ref 84) [.bytes o.toArray to, .int i ta]) Q E s := by
  refine wpAny_call ?_
  k_dflt cell_enter
  clear N F
  rename Fr _ _ _ _ => F1
  replace F1 := lk2 F1
  subst hb
  subst he
  walk_at "st"
  · rename Fr h₀ L _ m => FG
    rename News h₀ L _ _ => N2
    rename (_ ∧ AllLt _ _) => l2
    exact ret ‹_ ≠ _› ‹_ ≤ 9› ‹List.all _ _ = true› _ _ _ _ _ FG (fun p hp => (List.mem_cons.mp hp).elim (fun h => N2 p (h ▸ .head _)) (fun h => N2 p (.tail _ (.tail _ h)))) (allLt_get l2.2)
  · rename Fr h₀ L _ m => FG
    rename RaisedN _ _ _ _ _ _ => R'
    rename Heap.UpToSlots _ _ => U'
    exact exc2 ‹_ ≠ _› ‹_ ∨ _› _ _ _ _ FG (raised_drop R') U'
  · rename Fr h₀ L _ m => FG
    rename RaisedN _ _ _ _ _ _ => R'
    rename Heap.UpToSlots _ _ => U'
    exact exc ‹_ = _› _ _ _ _ FG R' U'
end
section
open PySem PySem.W PyProof.Rows PySem.Calls
set_option maxRecDepth 100000
theorem filled10 : Mine.hd.heap_39 = Mine.hd.heap_39 ∧ PySem.Challenge.rw_ok0124_01 = PySem.Challenge.rw_ok0124_01 := by
  k_fill; exact ⟨rfl, rfl⟩
local macro_rules | `(tactic| walk_at "no loop") => `(tactic| ((walk_at "n0"); (walk_at "n1"); (walk_at "n2"); (walk_at "n3")))
local macro_rules | `(tactic| walk_at "call ref") => `(tactic| walk_at "s3")
def okSide (a b : Int) : Bool := decide (1 ≤ a ∧ a ≤ 65535 ∧ 1 ≤ b ∧ b ≤ 65535)
set_option maxHeartbeats 8000000 in
theorem sides_spec {prog : Program} {w : World} {p : Program} {loose : List Str} {mean : ExcName → Option Value} {mg mb : Str → Option Value} {dp un : Nat} {gd : Option (List Code)} {cn : Str} {cs : Scope} {fa : Addr} {ccd : Value} {cl : List (Str × Addr)} {outer : List Env} {A₀ : Around} {base h₀ : Heap} {L : Addr} {m : Str → Option Value} {s : Shared} {Q E : Value → Shared → Prop}
    {news : List (Addr × Obj)} {ta tb : Tok} {a b : Int}
    (B : Below A₀ base outer h₀) (F : Fr h₀ L s.heap m) (X : (Mine.hd.heap_39 w.params).In h₀) (N : News h₀ L s.heap news) (T : Top p loose mean mg mb h₀) (hk : cs.kind = .function)
    (ha1 : -1000000 ≤ a) (ha2 : a ≤ 1000000) (hb1 : -1000000 ≤ b) (hb2 : b ≤ 1000000) (hd : dp + 6 < recursionLimit) (hu : un + 48 < cLine)
    (ret : okSide a b = true → ∀ h' tk', Fr h₀ L h' m → News h₀ L h' news → Q .none { s with heap := h', toks := tk' })
    (exc : okSide a b = false → ∀ x h' tk' g₂, Fr h₀ L g₂ m → RaisedN base (envX cn cs L fa ccd cl :: outer) x (.ref 56) news h' → g₂.UpToSlots h' → E (.ref x) { s with heap := h', toks := tk' }) :
    wpAny (model prog w) (ktrTop dp un gd cn cs L fa ccd cl outer) (call (.ref 98) [.int a ta, .int b tb]) Q E s := by
  refine wpAny_call ?_
  k_dflt cell_enter
  clear N F
  rename Fr _ _ _ _ => F1
  replace F1 := lk2 F1
  walk_at "st"
  · rename Fr h₀ L _ m => FG
    rename News h₀ L _ _ => N2
    exact ret (by unfold okSide; simp; lia) _ _ FG N2
  · refine exec_raise (C := 56) rfl ?_
    walk_at "st"
    rename Fr _ _ _ _ => F2
    rename News _ _ _ _ => N2
    rename (∀ (p : Addr × Obj), p ∈ _ → p.1 < _) => l2
    rename Below _ _ _ _ => B2
    rename Frag.In _ _ => X2
    rename Fr h₀ L _ m => FG
    refine ⟨_, _, _, _, _, _, rfl, (X2.keeps F2.keep) 56 _ (by k_is), by decide, (N2 _ (.head _)).1, ?_⟩
    exact leave_exc B2 F2 N2 (fun p hp => Nat.ne_of_lt (l2 p hp)) (fun h'' R U => exc (by unfold okSide; simp; lia) _ _ _ _ FG R U) rfl rfl
  · refine exec_raise (C := 56) rfl ?_
    walk_at "st"
    rename Fr _ _ _ _ => F2
    rename News _ _ _ _ => N2
    rename (∀ (p : Addr × Obj), p ∈ _ → p.1 < _) => l2
    rename Below _ _ _ _ => B2
    rename Frag.In _ _ => X2
    rename Fr h₀ L _ m => FG
    refine ⟨_, _, _, _, _, _, rfl, (X2.keeps F2.keep) 56 _ (by k_is), by decide, (N2 _ (.head _)).1, ?_⟩
    exact leave_exc B2 F2 N2 (fun p hp => Nat.ne_of_lt (l2 p hp)) (fun h'' R U => exc (by unfold okSide; simp; lia) _ _ _ _ FG R U) rfl rfl
  · refine exec_raise (C := 56) rfl ?_
    walk_at "st"
    rename Fr _ _ _ _ => F2
    rename News _ _ _ _ => N2
    rename (∀ (p : Addr × Obj), p ∈ _ → p.1 < _) => l2
    rename Below _ _ _ _ => B2
    rename Frag.In _ _ => X2
    rename Fr h₀ L _ m => FG
    refine ⟨_, _, _, _, _, _, rfl, (X2.keeps F2.keep) 56 _ (by k_is), by decide, (N2 _ (.head _)).1, ?_⟩
    exact leave_exc B2 F2 N2 (fun p hp => Nat.ne_of_lt (l2 p hp)) (fun h'' R U => exc (by unfold okSide; simp; lia) _ _ _ _ FG R U) rfl rfl
  · refine exec_raise (C := 56) rfl ?_
    walk_at "st"
    rename Fr _ _ _ _ => F2
    rename News _ _ _ _ => N2
    rename (∀ (p : Addr × Obj), p ∈ _ → p.1 < _) => l2
    rename Below _ _ _ _ => B2
    rename Frag.In _ _ => X2
    rename Fr h₀ L _ m => FG
    refine ⟨_, _, _, _, _, _, rfl, (X2.keeps F2.keep) 56 _ (by k_is), by decide, (N2 _ (.head _)).1, ?_⟩
    exact leave_exc B2 F2 N2 (fun p hp => Nat.ne_of_lt (l2 p hp)) (fun h'' R U => exc (by unfold okSide; simp; lia) _ _ _ _ FG R U) rfl rfl
set_option maxHeartbeats 8000000 in
theorem prec_spec {prog : Program} {w : World} {p : Program} {loose : List Str} {mean : ExcName → Option Value} {mg mb : Str → Option Value} {dp un : Nat} {gd : Option (List Code)} {cn : Str} {cs : Scope} {fa : Addr} {ccd : Value} {cl : List (Str × Addr)} {outer : List Env} {A₀ : Around} {base h₀ : Heap} {L : Addr} {m : Str → Option Value} {s : Shared} {Q E : Value → Shared → Prop}
    {news : List (Addr × Obj)} {ta : Tok} {a : Int} {r : Nat}
    (B : Below A₀ base outer h₀) (F : Fr h₀ L s.heap m) (X : (Mine.hd.heap_39 w.params).In h₀) (N : News h₀ L s.heap news) (T : Top p loose mean mg mb h₀) (hk : cs.kind = .function)
    (ha1 : 0 ≤ a) (ha2 : a ≤ 1000000) (hr : r = Builtin.Int.intBits a) (hr2 : r ≤ 30) (hd : dp + 6 < recursionLimit) (hu : un + 48 < cLine)
    (ret : 2 ≤ r → r ≤ 16 → a = 2 ^ r - 1 → ∀ t h' tk', Fr h₀ L h' m → News h₀ L h' news → Q (.int r t) { s with heap := h', toks := tk' })
    (exc : ¬ (2 ≤ r ∧ r ≤ 16 ∧ a = 2 ^ r - 1) → ∀ x h' tk' g₂, Fr h₀ L g₂ m → RaisedN base (envX cn cs L fa ccd cl :: outer) x (.ref 56) news h' → g₂.UpToSlots h' → E (.ref x) { s with heap := h', toks := tk' }) :
    wpAny (model prog w) (ktrTop dp un gd cn cs L fa ccd cl outer) (call (.ref 91) [.int a ta]) Q E s := by
  refine wpAny_call ?_
  k_dflt cell_enter
  clear N F
  rename Fr _ _ _ _ => F1
  replace F1 := lk1 F1
  walk_at "st"
  · refine exec_raise (C := 56) rfl ?_
    walk_at "st"
    rename Fr _ _ _ _ => F2
    rename News _ _ _ _ => N2
    rename (∀ (p : Addr × Obj), p ∈ _ → p.1 < _) => l2
    rename Below _ _ _ _ => B2
    rename Frag.In _ _ => X2
    rename Fr h₀ L _ m => FG
    refine ⟨_, _, _, _, _, _, rfl, (X2.keeps F2.keep) 56 _ (by k_is), by decide, (N2 _ (.head _)).1, ?_⟩
    exact leave_exc B2 F2 N2 (fun p hp => Nat.ne_of_lt (l2 p hp)) (fun h'' R U => exc (by subst hr; exact fun h => absurd h.2.2 ‹a ≠ _›) _ _ _ _ FG R U) rfl rfl
  · rename Fr h₀ L _ m => FG
    rename News h₀ L _ _ => N2
    subst hr
    exact ret (by lia) (by lia) (by assumption) _ _ _ FG N2
  · refine exec_raise (C := 56) rfl ?_
    walk_at "st"
    rename Fr _ _ _ _ => F2
    rename News _ _ _ _ => N2
    rename (∀ (p : Addr × Obj), p ∈ _ → p.1 < _) => l2
    rename Below _ _ _ _ => B2
    rename Frag.In _ _ => X2
    rename Fr h₀ L _ m => FG
    refine ⟨_, _, _, _, _, _, rfl, (X2.keeps F2.keep) 56 _ (by k_is), by decide, (N2 _ (.head _)).1, ?_⟩
    exact leave_exc B2 F2 N2 (fun p hp => Nat.ne_of_lt (l2 p hp)) (fun h'' R U => exc (by subst hr; lia) _ _ _ _ FG R U) rfl rfl
  · refine exec_raise (C := 56) rfl ?_
    walk_at "st"
    rename Fr _ _ _ _ => F2
    rename News _ _ _ _ => N2
    rename (∀ (p : Addr × Obj), p ∈ _ → p.1 < _) => l2
    rename Below _ _ _ _ => B2
    rename Frag.In _ _ => X2
    rename Fr h₀ L _ m => FG
    refine ⟨_, _, _, _, _, _, rfl, (X2.keeps F2.keep) 56 _ (by k_is), by decide, (N2 _ (.head _)).1, ?_⟩
    exact leave_exc B2 F2 N2 (fun p hp => Nat.ne_of_lt (l2 p hp)) (fun h'' R U => exc (by subst hr; lia) _ _ _ _ FG R U) rfl rfl
end
section
open PySem PySem.W PyProof.Rows PySem.Calls
set_option maxRecDepth 100000
theorem isSub_ref {M : Model} {A : Around} {E : Value → Shared → Prop} {h : Heap} {g : Array GenState} {d : Drawn} {tk : Nat} {os : OsState} {C : Addr} {dd : Option Addr} {cd : ClassData} {sl : Array (Option Value)} {t : Value} {Q : Bool → Shared → Prop}
    (hC : h.get? C = some ⟨.type "type", dd, .cls cd, sl⟩) (ne : cd.mro.isEmpty = false) (hq : Q (cd.mro.contains t) ⟨h, g, d, tk, os⟩) : wpAny M A (isSubtype (.ref C) t) Q E ⟨h, g, d, tk, os⟩ := by
  unfold isSubtype
  repeat (any_goals (first | assumption | wp_step))
  done
theorem exm_own {M : Model} {A : Around} {E : Value → Shared → Prop} {h : Heap} {g : Array GenState} {d : Drawn} {tk : Nat} {os : OsState} {C C' e : Addr} {oe : Obj} {dd dd' : Option Addr} {cd cd' : ClassData} {sl sl' : Array (Option Value)} {b : Bool} {Q : Bool → Shared → Prop}
    (hC : h.get? C = some ⟨.type "type", dd, .cls cd, sl⟩) (hC' : h.get? C' = some ⟨.type "type", dd', .cls cd', sl'⟩) (he : h.get? e = some oe) (hcls : oe.cls = .ref C')
    (ne : cd.mro.isEmpty = false) (ne' : cd'.mro.isEmpty = false) (hb : cd.mro.contains (.type "BaseException") = true) (hb' : cd'.mro.contains (.ref C) = b) (hq : Q b ⟨h, g, d, tk, os⟩) :
    wpAny M A (excMatches (.ref e) (.ref C)) Q E ⟨h, g, d, tk, os⟩ := by
  have f := tc_notTuple
  unfold excMatches
  repeat (first | (with_reducible refine wpAny_loadPart_at he ?_; rw [hcls]) | with_reducible refine wpAny_loadPart_at hC ?_ | (with_reducible refine isSub_ref hC ne ?_; rw [hb]) | (with_reducible refine isSub_ref hC' ne' ?_; rw [hb']) | wp_step)
  cases b <;> (wp_walk; exact hq)
/-- the part of a heap below `n` at which `p` holds -/
def keepOnly (h : Heap) (n : Nat) (as : List Addr) : Heap := hideAll { h with objs := h.objs.extract 0 n } as
theorem keepOnly_get {h : Heap} {n b : Nat} {as : List Addr} {o : Obj} (e : h.get? b = some o) (hb : b < n) (hn : b ∉ as) : (keepOnly h n as).get? b = some o := by
  refine hideAll_get _ ?_ hn
  have hx : ({ h with objs := h.objs.extract 0 n } : Heap).objs[b]? = h.objs[b]? := by
    show (h.objs.extract 0 n)[b]? = _
    rw [Array.getElem?_extract]; simp [hb]
    intro hle
    lia
  unfold Heap.get?
  rw [hx]
  exact e
theorem of_keepOnly {h : Heap} {n b : Nat} {as : List Addr} {o : Obj} (e : (keepOnly h n as).get? b = some o) : h.get? b = some o ∧ b ∉ as ∧ b < n := by
  have e2 := of_hideAll _ e
  have hlt := Heap.lt_size e2
  have hlt' : b < min n h.objs.size := by simpa using hlt
  refine ⟨?_, fun hm => (by rw [keepOnly, hideAll_none _ hm] at e; cases e), by lia⟩
  have hx : ({ h with objs := h.objs.extract 0 n } : Heap).objs[b]? = h.objs[b]? := by
    show (h.objs.extract 0 n)[b]? = _
    rw [Array.getElem?_extract]; simp; lia
  unfold Heap.get? at e2
  rw [hx] at e2
  exact e2
theorem keepOnly_size {h : Heap} {n : Nat} {as : List Addr} : (keepOnly h n as).objs.size ≤ n := by
  unfold keepOnly; rw [hideAll_size]; simp; lia
open Classical in
/-- a new ground behind a caught exception: the first heap and the frames below, as they now stand -/
theorem reground {A₀ : Around} {base h₀ g h'' : Heap} {outer : List Env} {L : Addr} {m : Str → Option Value} {news : List (Addr × Obj)}
    (B : Below A₀ base outer h₀) (FG : Fr h₀ L g m) (U : g.UpToSlots h'') (st : base.StaysIn h'') (hl : ∀ q ∈ news, h''.get? q.1 = some q.2 ∧ base.get? q.1 = none)
    (hn : ∀ q ∈ news, q.1 ≠ L ∧ h₀.get? q.1 = none) :
    ∃ h₀', base.StaysIn h₀' ∧ Below A₀ base outer h₀' ∧ Fr h₀' L h'' m ∧ News h₀' L h'' news ∧
      ∀ L₂ m₂, (∃ env ∈ outer, env.frame = some L₂) → Fr base L₂ h₀ m₂ → Fr base L₂ h₀' m₂ := by
  have hU : ∀ b o, h₀.get? b = some o → (∀ vs, o.data ≠ .fields vs) → ∃ sl, h''.get? b = some { o with slots := sl } := fun b o e hf => U b o (FG.keep b o e) hf
  let bad : List Addr := (List.range h₀.objs.size).filter fun b => decide (base.get? b = none ∧ ¬ ∃ env ∈ outer, env.frame = some b)
  have hbad : ∀ b, b ∈ bad ↔ b < h₀.objs.size ∧ base.get? b = none ∧ ¬ ∃ env ∈ outer, env.frame = some b := fun b => by simp [bad]
  have hsz : ∀ {b o}, base.get? b = some o → b < h₀.objs.size := fun e => Heap.lt_size (B.stays _ _ e)
  have hst : base.StaysIn (keepOnly h'' h₀.objs.size bad) := fun b o e => keepOnly_get (st b o e) (hsz e) fun hm => by rw [((hbad b).mp hm).2.1] at e; cases e
  have hfr : ∀ b o, (∃ env ∈ outer, env.frame = some b) → h₀.get? b = some o → (∀ vs, o.data ≠ .fields vs) → ∃ sl, (keepOnly h'' h₀.objs.size bad).get? b = some { o with slots := sl } := fun b o he e hf => by
    obtain ⟨sl, q⟩ := hU b o e hf
    exact ⟨sl, keepOnly_get q (Heap.lt_size e) fun hm => ((hbad b).mp hm).2.2 he⟩
  refine ⟨keepOnly h'' h₀.objs.size bad, hst, ⟨B.stack, hst, ?_⟩, ⟨U.ns FG.ns, fun b o e => (of_keepOnly e).1, Nat.le_trans keepOnly_size FG.above⟩, fun q hq => ⟨(hl q hq).1, (hn q hq).1, ?_⟩, fun L₂ m₂ he F₂ => ⟨?_, hst, F₂.above⟩⟩
  · have : ∀ l : List Env, (∀ env ∈ l, env ∈ outer) → h₀.FunFrames base l → (keepOnly h'' h₀.objs.size bad).FunFrames base l := by
      intro l
      induction l with
      | nil => intro _ _; trivial
      | cons env r ih =>
        rintro hin ⟨hk, ⟨L₁, o, hf, hn', ho, hd⟩, hr⟩
        obtain ⟨sl, q⟩ := hfr L₁ o ⟨env, hin env (.head _), hf⟩ ho hd
        exact ⟨hk, ⟨L₁, _, hf, hn', q, hd⟩, ih (fun e he => hin e (.tail _ he)) hr⟩
    exact this outer (fun _ h => h) B.frames
  · cases q' : (keepOnly h'' h₀.objs.size bad).get? q.1 with
    | none => rfl
    | some o =>
      obtain ⟨x1, x2, x3⟩ := of_keepOnly q'
      exfalso
      have hfr' : ∃ env ∈ outer, env.frame = some q.1 := Classical.byContradiction fun hno => x2 ((hbad q.1).mpr ⟨x3, (hl q hq).2, hno⟩)
      obtain ⟨env, he, hf⟩ := hfr'
      obtain ⟨L₁, o₁, hf₁, ho₁⟩ := funFrames_in B.frames env he
      rw [hf] at hf₁
      rw [← Option.some.inj hf₁, (hn q hq).2] at ho₁
      cases ho₁
  · obtain ⟨o, es, ep, e, r1, r2⟩ := F₂.ns
    obtain ⟨sl, q⟩ := hfr L₂ o he e (fun vs hv => by rw [r1] at hv; cases hv)
    exact ⟨_, es, ep, q, r1, r2⟩
/-- what a frame's walk ends with, told to the frame that called -/
theorem frBack {h₀ g h : Heap} {L L' : Addr} {m m' : Str → Option Value} {news : List (Addr × Obj)} (FG : Fr h₀ L g m) (F : Fr g L' h m') (N : News g L' h news) : Fr h₀ L h m ∧ News h₀ L h news := by
  obtain ⟨oL, es, ep, hL, hLd, hLk, hLf⟩ := FG.ns
  refine ⟨⟨⟨oL, es, ep, F.keep L oL hL, hLd, hLk, hLf⟩, fun b o e => F.keep b o (FG.keep b o e), FG.above⟩, fun p hp => ⟨(N p hp).1, fun q => ?_, ?_⟩⟩
  · have := (N p hp).2.2; rw [q, hL] at this; cases this
  · cases q : h₀.get? p.1 with
    | none => rfl
    | some o => have := (N p hp).2.2; rw [FG.keep _ _ q] at this; cases this
section
variable {prog : Program} {w : World} {A₀ A : Around} {s : Shared} {base h₀ : Heap} {outer : List Env} {L : Addr} {m : Str → Option Value} {env : Env} {news : List (Addr × Obj)} {K : Frag}
  {p : Program} {loose : List Str} {mean : ExcName → Option Value} {mg mb : Str → Option Value}
  {R : Result → Shared → Prop} {name qual : Str} {params : Arguments} {body : List Stmt} {scope : Scope} {dV kV doc pm cdv ct oc : Value} {an od : Option Addr} {osl : Array (Option Value)} {f : Addr} {args : Args} {binds : List (Str × Value)}
/-- a def is entered, with nothing said of what it leaves -/
theorem code_defR
    (B : Below A₀ base outer h₀) (F : Fr h₀ L s.heap m) (X₀ : K.In h₀) (N : News h₀ L s.heap news) (T : Top p loose mean mg mb h₀) (hA : A.frames = some (env :: outer)) (hf : env.frame = some L) (hke : env.scope.kind = .function)
    (ho : K.lookup f = some ⟨oc, od, .func (fnOf name qual params body scope dV kV doc pm an cdv ct), osl⟩) (hcd : codeIn K cdv qual = true) (hroom : A.depth < recursionLimit)
    (hbind : BindsTo s (fnOf name qual params body scope dV kV doc pm an cdv ct) args binds) (hloc : ∀ y ∈ binds, scope.names.lookup y.1 = some .local)
    (h : ∀ g L' h₁, Fr h₀ L g m → Fr g L' h₁ (fun y => binds.reverse.lookup y) → News g L' h₁ news → Below A base (env :: outer) g → K.In g → Top p loose mean mg mb g → News h₀ L s.heap news → (∀ p ∈ news, p.1 < L') →
      wpAny (model prog w) (A.deeper (envOf qual scope L' f cdv)) (execs body (envOf qual scope L' f cdv))
        (fun fl s' => R (.ok (.ret (match fl with | .ret v => v | _ => .none))) s')
        (fun e s' => wpAny (model prog w) (A.deeper (envOf qual scope L' f cdv)) (leaving (envOf qual scope L' f cdv) e) (fun _ s'' => R (.error e) s'') (fun e' s'' => R (.error e') s'') s')
        { s with heap := h₁, toks := s.toks + binds.length })
    (hco : scope.isCoroutine = false) (hgen : scope.isGenerator = false) (hk : scope.kind = .function)
    (hcell : ∀ x ∈ scope.names, x.2 ≠ .cell) : codeAny (model prog w) A (.call (.ref f) args) R s := by
  obtain ⟨FG, BG, st, lv⟩ := groundX (R := R) B F N hA hf hke
  refine codeAny_call_def (fd := fnX name qual params body scope [] dV kV doc pm an cdv ct) (body := body) (binds := binds) hroom ((X₀.keeps F.keep) _ _ ho) rfl (T.nolimit.keeps F.keep) (codeRec_of (X₀.keeps F.keep) hcd) rfl hbind hcell hloc (fun h₁ hns hk₁ => ?_) hco hgen hk
  exact h _ s.heap.objs.size h₁ FG ⟨hns, fun b o e => hk₁ b o (of_hideAll _ e), Nat.le_of_eq (hideAll_size _ _)⟩
    (fun p hp => ⟨hk₁ _ _ (N p hp).1, Nat.ne_of_lt (Heap.lt_size (N p hp).1), hideAll_none _ (List.mem_map_of_mem hp)⟩) BG (X₀.keeps st) (T.keeps st) N (fun p hp => Heap.lt_size (N p hp).1)
theorem code_defCR
    (B : Below A₀ base outer h₀) (F : Fr h₀ L s.heap m) (X₀ : K.In h₀) (N : News h₀ L s.heap news) (T : Top p loose mean mg mb h₀) (hA : A.frames = some (env :: outer)) (hf : env.frame = some L) (hke : env.scope.kind = .function)
    (ho : K.lookup f = some ⟨oc, od, .func (fnOf name qual params body scope dV kV doc pm an cdv ct), osl⟩) (hcd : codeIn K cdv qual = true) (hroom : A.depth < recursionLimit)
    (hbind : BindsTo s (fnOf name qual params body scope dV kV doc pm an cdv ct) args binds) (hkind : (binds.all fun y => scope.names.lookup y.1 == some .local || scope.names.lookup y.1 == some .cell) = true)
    (hnd : ((cellsFrom 0 scope.names []).map (·.1)).Nodup)
    (h : ∀ g L' h₁ tk cells, Fr h₀ L g m → Fr g L' h₁ (bindL (envOfC qual scope L' f cdv).kindOf binds fun _ => none) → News g L' h₁ (cells ++ news) →
      CellsAre (bindC (envOfC qual scope L' f cdv).kindOf binds fun _ => none) (cellsFrom (L' + 1) scope.names []) cells → Below A base (env :: outer) g → K.In g → Top p loose mean mg mb g → (∀ p ∈ news, p.1 < L') →
      wpAny (model prog w) (A.deeper (envOfC qual scope L' f cdv)) (execs body (envOfC qual scope L' f cdv))
        (fun fl s' => R (.ok (.ret (match fl with | .ret v => v | _ => .none))) s')
        (fun e s' => wpAny (model prog w) (A.deeper (envOfC qual scope L' f cdv)) (leaving (envOfC qual scope L' f cdv) e) (fun _ s'' => R (.error e) s'') (fun e' s'' => R (.error e') s'') s')
        { s with heap := h₁, toks := tk })
    (hco : scope.isCoroutine = false) (hgen : scope.isGenerator = false) (hk : scope.kind = .function) : codeAny (model prog w) A (.call (.ref f) args) R s := by
  obtain ⟨FG, BG, st, lv⟩ := groundX (R := R) B F N hA hf hke
  refine codeAny_call_function hroom ((X₀.keeps F.keep) _ _ ho) rfl hco hgen rfl (codeRec_of (X₀.keeps F.keep) hcd) (hbind _ _ _ _ ?_)
  refine wpAny_newFunctionEnv_cells hk (kindsX hkind _) fun env' he s' x => ?_
  subst he
  refine ⟨(T.nolimit.keeps F.keep).keeps x.toInCall.keep, codeAny_func ?_⟩
  obtain ⟨h₁, tk, rfl, _⟩ := x.done
  have hk₁ := x.toInCall.keep
  obtain ⟨cells, NC, Y⟩ := Cl.news (h₀ := s.heap) (Nat.le_refl _) fun n c hm => ⟨x.cell n c (lookup_of_mem_nodup (cellsFrom_names scope.names 0 (s.heap.objs.size + 1) [] [] rfl ▸ hnd) hm), x.above n c hm⟩
  refine h _ s.heap.objs.size h₁ tk cells FG ⟨x.toInCall.ns, fun b o e => hk₁ b o (of_hideAll _ e), Nat.le_of_eq (hideAll_size _ _)⟩ (fun p hp => ?_) Y BG (X₀.keeps st) (T.keeps st) (fun p hp => Heap.lt_size (N p hp).1)
  rcases List.mem_append.mp hp with hp | hp
  · refine ⟨(NC p hp).1, (NC p hp).2.1, ?_⟩
    cases q : (hideAll s.heap (news.map (·.1))).get? p.1 with
    | none => rfl
    | some o => have := of_hideAll _ q; rw [(NC p hp).2.2] at this; cases this
  · exact ⟨hk₁ _ _ (N p hp).1, Nat.ne_of_lt (Heap.lt_size (N p hp).1), hideAll_none _ (List.mem_map_of_mem hp)⟩
end
end
section
local macro_rules | `(tactic| walk_at "pad") => `(tactic| skip)
open PySem PySem.W PyProof.Rows PySem.Calls
set_option maxRecDepth 100000
theorem filled12 : Mine.hd.heap_39 = Mine.hd.heap_39 ∧ PySem.Challenge.rw_ok0124_01 = PySem.Challenge.rw_ok0124_01 := by
  k_fill; exact ⟨rfl, rfl⟩
local macro_rules | `(tactic| walk_at "no loop") => `(tactic| ((walk_at "n0"); (walk_at "n1"); (walk_at "n2"); (fail_if_success (with_reducible show wpAny _ _ (exec (PySem.Stmt.Try _ _ _ _ _) _) _ _ _)); (fail_if_success (with_reducible show wpAny _ _ (call (.ref _) _) _ _ _)); (walk_at "n3")))
local macro_rules | `(tactic| walk_at "enterR") => `(tactic| (refine' code_defR ?k1 ?k2 ?k3 ?k4 ?k5 ?kA ?kF ?kK ?k6 ?k7 ?k8 ?k9 ?kB ?_ ?c2 ?c3 ?c4 ?c5; (case kA | kF => exact rfl); (case kK => assumption); (case k1 | k2 | k3 | k4 | k5 => k_asm); (case k6 | k7 => k_is); (case k8 => walk_at "rm"); (case k9 => exact BindsTo.of_eq rfl); (case c5 => decide); (case kB => exact locs rfl); (case c2 | c3 | c4 => exact rfl); k_whole; intro g' L' h' FG' F' N' B' X' T' N0' l0'; have N2' := N'; clear N'; (try dsimp only); (try k_lift B'); (try k_fold)))
abbrev toldSc : Scope := { kind := ScopeKind.function, names := [(Str.ofString "call", NameKind.local), (Str.ofString "CutError", NameKind.globalImplicit), (Str.ofString "RangeError", NameKind.globalImplicit)], isGenerator := false, isCoroutine := false }
abbrev toldEnv (L' : Addr) : Env := envOf (Str.ofString "_law_told") toldSc L' 154 (Value.ref 153)
abbrev toldM (f : Addr) : Str → Option Value := fun y => if y = ("call" : Str) then some (.ref f) else none
theorem lowGround {base g h : Heap} {L : Addr} {m : Str → Option Value} (st : base.StaysIn g) (ab : g.objs.size ≤ L) (sh : base.StaysIn h) (ns : h.Ns L m) :
    ∃ b₁ : Heap, base.StaysIn b₁ ∧ b₁.StaysIn base ∧ Fr b₁ L h m :=
  ⟨keepOnly base L [], fun b o e => keepOnly_get e (Nat.lt_of_lt_of_le (Heap.lt_size (st b o e)) ab) (by simp), fun b o e => (of_keepOnly e).1, ns, fun b o e => sh b o (of_keepOnly e).1, keepOnly_size⟩
set_option maxHeartbeats 8000000 in
theorem told_spec {prog : Program} {w : World} {p : Program} {loose : List Str} {mean : ExcName → Option Value} {mg mb : Str → Option Value} {dp un : Nat} {gd : Option (List Code)} {cn : Str} {cs : Scope} {fa : Addr} {ccd : Value} {cl : List (Str × Addr)} {outer : List Env} {A₀ : Around} {base h₀ : Heap} {L : Addr} {m : Str → Option Value} {s : Shared} {Q E : Value → Shared → Prop}
    {news : List (Addr × Obj)} {f : Addr} (P : Value → List (Addr × Obj) → Prop) (Pc Pr : Prop)
    (B : Below A₀ base outer h₀) (F : Fr h₀ L s.heap m) (X : (Mine.hd.heap_39 w.params).In h₀) (N : News h₀ L s.heap news) (T : Top p loose mean mg mb h₀) (hk : cs.kind = .function)
    {foc : Value} {fod : Option Addr} {fd : FuncData} {fsl : Array (Option Value)} (hf : (f, (⟨foc, fod, .func fd, fsl⟩ : Obj)) ∈ news)
    (hd : dp + 10 < recursionLimit) (hu : un + 80 < cLine) (X₀ : (Mine.hd.heap_39 w.params).In base) (T₀ : Top p loose mean mg mb base)
    (hcall : ∀ g L' h₁ tk, Below (ktrTop dp un gd cn cs L fa ccd cl outer) base (envX cn cs L fa ccd cl :: outer) g → Fr g L' h₁ (toldM f) → News g L' h₁ news → (Mine.hd.heap_39 w.params).In g → Top p loose mean mg mb g → (∀ p ∈ news, p.1 < L') →
      wpAny (model prog w) ((ktrTop dp un gd cn cs L fa ccd cl outer).deeper (toldEnv L')) (call (.ref f) [])
        (fun v s' => ∃ h' tk' news', s' = { s with heap := h', toks := tk' } ∧ Fr g L' h' (toldM f) ∧ News g L' h' news' ∧ P v news')
        (fun x s' => ∃ e C h' tk' g₂, x = .ref e ∧ s' = { s with heap := h', toks := tk' } ∧ Fr g L' g₂ (toldM f) ∧ RaisedN base (toldEnv L' :: envX cn cs L fa ccd cl :: outer) e (.ref C) news h' ∧ g₂.UpToSlots h' ∧ (C = 44 ∧ Pc ∨ C = 56 ∧ Pr))
        { s with heap := h₁, toks := tk })
    (ret : ∀ v h' tk' news', P v news' → Fr h₀ L h' m → News h₀ L h' news' → Q v { s with heap := h', toks := tk' })
    (cau : ∀ h₀' h' tk' t (r : Str), (Pc ∧ r = "cut" ∨ Pr ∧ r = "range") → base.StaysIn h₀' → Below A₀ base outer h₀' → Fr h₀' L h' m → News h₀' L h' news →
      (∀ L₂ m₂, (∃ env ∈ outer, env.frame = some L₂) → Fr base L₂ h₀ m₂ → Fr base L₂ h₀' m₂) → Q (.str r t) { s with heap := h', toks := tk' }) :
    wpAny (model prog w) (ktrTop dp un gd cn cs L fa ccd cl outer) (call (.ref 154) [.ref f]) Q E s := by
  refine wpAny_call ?_
  k_dflt (walk_at "enterR")
  clear N F
  rename Fr _ _ _ (fun y => List.lookup y _) => F1
  replace F1 := lk1 F1
  rename News _ _ _ _ => N2
  rename News h₀ L _ _ => N0
  walk_at "st"
  refine wpAny_Try_except ?_
  walk_at "st"
  rename (∀ (p : Addr × Obj), p ∈ _ → p.1 < _) => l2
  rename Below (ktrTop _ _ _ _ _ _ _ _ _ _) _ _ _ => B2
  rename Fr h₀ L _ m => FG
  rename (Mine.hd.heap_39 w.params).In _ => X2
  rename Top p loose mean mg mb _ => T2
  refine callWith_F0 (FnAt.of N2 hf) ?_
  refine wpAny_mono (hcall _ _ _ _ B2 F1 N2 X2 T2 l2) ?_ ?_
  · rintro v s' ⟨h', tk', news', rfl, F3, N3, hP⟩
    walk_at "st"
    obtain ⟨F4, N4⟩ := frBack FG F3 N3
    exact ret _ _ _ _ hP F4 N4
  · rintro x s' ⟨e, C, h', tk', g₂, rfl, rfl, F3, R3, U3, hC⟩
    obtain ⟨Bh, a0, hB, hl, hfl⟩ := R3
    refine wpAny_looks_onW rfl rfl hfl fun h₄ hheld₄ hsm₄ => ?_
    refine wpAny_landsW hheld₄ fun h₅ hheld hsm₅' => ?_
    have hsm₅ := hsm₄.trans hsm₅'
    have hheld' := flyingW_base hB hheld
    obtain ⟨b₁, hb1, hb2, F₅⟩ := lowGround B2.stays F1.above hheld'.1 (hsm₅.ns (U3.ns F3.ns))
    have X₁ := X₀.keeps hb1
    have T₁ := T₀.keeps hb1
    obtain ⟨ob, hob, hobc⟩ := hheld'.there
    have X5 := X₀.keeps hheld'.1
    refine wpAny_handleBy_cons (codeAny_handlers_test ?_) (by intro q; cases q)
    clear X2 T2 X T X₀ T₀
    walk_at "st"
    rcases hC with ⟨rfl, hC⟩ | ⟨rfl, hC⟩
    · refine exm_own (X5 44 _ (by k_is)) (X5 44 _ (by k_is)) hob hobc rfl rfl (by decide) (b := true) (by decide) ?_
      refine codeAny_handlers_suite ?_
      refine lands_againW hheld fun h₆ hfl₆ hsm₆ => ?_
      have F₆ : Fr b₁ _ h₆ _ := Fr.of_stays F₅ (fun b o e => (flyingW_base hB hfl₆).1 b o (hb2 b o e)) hsm₆
      clear F₅
      walk_at "st"
      obtain ⟨h₀', a1, a2, a3, a4, a5⟩ := reground B FG (((Heap.UpToSlots.of_keeps F3.keep).trans U3).trans (hsm₅.trans hsm₆)) (flyingW_base hB hfl₆).1 (fun q hq => ⟨hfl₆.1 _ _ (hl q hq).1, (hl q hq).2⟩) (fun q hq => (N0 q hq).2)
      exact cau h₀' _ _ _ _ (.inl ⟨hC, rfl⟩) a1 a2 a3 a4 a5
    · refine exm_own (X5 44 _ (by k_is)) (X5 56 _ (by k_is)) hob hobc rfl rfl (by decide) (b := false) (by decide) ?_
      refine wpAny_handleBy_cons (codeAny_handlers_test ?_) (by intro q; cases q)
      walk_at "st"
      refine exm_own (X5 56 _ (by k_is)) (X5 56 _ (by k_is)) hob hobc rfl rfl (by decide) (b := true) (by decide) ?_
      refine codeAny_handlers_suite ?_
      refine lands_againW hheld fun h₆ hfl₆ hsm₆ => ?_
      have F₆ : Fr b₁ _ h₆ _ := Fr.of_stays F₅ (fun b o e => (flyingW_base hB hfl₆).1 b o (hb2 b o e)) hsm₆
      clear F₅
      walk_at "st"
      obtain ⟨h₀', a1, a2, a3, a4, a5⟩ := reground B FG (((Heap.UpToSlots.of_keeps F3.keep).trans U3).trans (hsm₅.trans hsm₆)) (flyingW_base hB hfl₆).1 (fun q hq => ⟨hfl₆.1 _ _ (hl q hq).1, (hl q hq).2⟩) (fun q hq => (N0 q hq).2)
      exact cau h₀' _ _ _ _ (.inr ⟨hC, rfl⟩) a1 a2 a3 a4 a5
end
section
open PySem PySem.W PyProof.Rows PySem.Calls
set_option maxRecDepth 100000
theorem filled13 : Mine.hd.heap_39 = Mine.hd.heap_39 ∧ PySem.Challenge.rw_ok0124_01 = PySem.Challenge.rw_ok0124_01 := by
  k_fill; exact ⟨rfl, rfl⟩
/-- what a turn of a loop leaves, where the ledger may grow -/
def EndG (h₀ : Heap) (L : Addr) (J : (Str → Option Value) → List (Addr × Obj) → Prop) (I : Addr) (own : List (Addr × Obj)) (s₁ s₂ : Shared) : Prop :=
  ∃ h' tk m' led nx, s₂ = { s₁ with heap := h', toks := tk } ∧ Fr h₀ L h' m' ∧ News h₀ L h' led ∧ (∀ p ∈ nx, p ∈ led) ∧ (∀ p ∈ own, p ∈ led) ∧ (∀ p ∈ nx, p.1 ≠ I) ∧ J m' nx
def PostG (h₀ : Heap) (L : Addr) (J : (Str → Option Value) → List (Addr × Obj) → Prop) (I : Addr) (own : List (Addr × Obj)) (s₁ : Shared) (Q : Flow → Shared → Prop) (f : Flow) (s₂ : Shared) : Prop :=
  match f with
  | .ret v => Q (.ret v) s₂
  | .brk => Q .next s₂
  | _ => EndG h₀ L J I own s₁ s₂
section
variable {prog : Program} {w : World} {A : Around} {E : Value → Shared → Prop} {s : Shared} {env : Env} {h₀ : Heap} {x : Str} {body : List Stmt} {Q : Flow → Shared → Prop} {m₀ : Str → Option Value} {news : List (Addr × Obj)}
theorem loop_G {I : Addr} {fp : List Addr} {n : Nat} {P : Nat → Value → Prop} {St : Nat → Heap → Prop} (J : Nat → (Str → Option Value) → List (Addr × Obj) → Prop)
    (W : Walks prog w A I fp [I] n P St) (hLf : env.locals ∉ fp) (hI : h₀.get? I = none) (hnI : ∀ p ∈ news, p.1 ≠ I) (hst : St 0 s.heap) (hS : ∀ i h, St i h → ∃ o, h.get? I = some o) (F : Fr h₀ env.locals s.heap m₀) (N : News h₀ env.locals s.heap news) (hj : J 0 m₀ news)
    (turn : ∀ i v m₁ nx h tk own, i < n → P i v → J i m₁ nx → (∀ p ∈ nx, p.1 ≠ I) → (∃ io, (I, io) ∈ own) → Fr h₀ env.locals h (fun y => if y = x then some v else m₁ y) → News h₀ env.locals h (nx ++ own) →
      wpAny (model prog w) A (execs body env) (PostG h₀ env.locals (J (i + 1)) I own { s with heap := h, toks := tk } Q) E { s with heap := h, toks := tk })
    (done : ∀ m₁ nx h tk, J n m₁ nx → Fr h₀ env.locals h m₁ → News h₀ env.locals h nx → Q .next { s with heap := h, toks := tk }) :
    LoopAtV prog w A h₀ env x body Q E (.ref I) s := by
  refine ⟨I, fp, [I], n, P, St, m₀, news, J, rfl, W, hLf, (fun b hb => by rw [List.mem_singleton.mp hb]; exact hI), (fun p hp hm => hnI p hp (List.mem_singleton.mp hm)), hst, F, N, hj, ?_, ?_⟩
  · rintro i v m₁ nx s₁ own ⟨hh', tk', rfl⟩ hin hP hJ hoff hown hat hfp hSt F₁ N₁
    obtain ⟨io, hio⟩ := hS _ _ hSt
    have hIm : (I, io) ∈ own := hfp I (W.sub I (.head _)) hI io hio
    refine wpAny_mono (turn i v m₁ nx hh' tk' own hin hP hJ (fun p hp e => hoff p hp (List.mem_singleton.mpr e)) ⟨io, hIm⟩ F₁ fun p hp => N₁ p ((List.mem_append.mp hp).elim (fun h => List.mem_append.mpr (.inr h)) fun h => List.mem_append.mpr (.inl h))) (fun f s₂ p => ?_) fun _ _ e => e
    have fin : EndG h₀ env.locals (J (i + 1)) I own { s with heap := hh', toks := tk' } s₂ → LoopStepU h₀ env.locals [I] own (J (i + 1)) { s with heap := hh', toks := tk' } .next s₂ := by
      rintro ⟨h', tk, m', led, nx', e, F', N', hn, ho, ha, hm⟩
      exact ⟨rfl, h', tk, m', nx', e, F', fun p hp => N' p ((List.mem_append.mp hp).elim (ho p) (hn p)), fun p hp hq => ha p hp (List.mem_singleton.mp hq), hm⟩
    cases f with
    | ret v => exact .ret p
    | brk => exact .brk p
    | next => exact .next (fin p)
    | cont => exact .cont (fin p)
  · rintro h' tk m' news' F' N' _ hJ
    exact done m' news' h' tk hJ F' N'
theorem iter_rangeG {r : Addr} {a₀ b₀ : Int} {t₀ u₀ v₀ : Tok} {n : Nat} (J : Nat → (Str → Option Value) → List (Addr × Obj) → Prop)
    (hh : A.handled = none) (hr : IsRange s.heap r a₀ b₀ 1 t₀ u₀ v₀) (hsmall : Builtin.Range.small a₀ b₀ 1 = true) (hn : Builtin.Range.rangeSize a₀ b₀ 1 = (n : Int)) (F : Fr h₀ env.locals s.heap m₀) (N : News h₀ env.locals s.heap news) (hj : J 0 m₀ news)
    (turn : ∀ i t m₁ nx h tk I own, i < n → J i m₁ nx → (∀ p ∈ nx, p.1 ≠ I) → (∃ io, (I, io) ∈ own) → Fr h₀ env.locals h (fun y => if y = x then some (.int (a₀ + (i : Nat)) t) else m₁ y) → News h₀ env.locals h (nx ++ own) →
      wpAny (model prog w) A (execs body env) (PostG h₀ env.locals (J (i + 1)) I own { s with heap := h, toks := tk } Q) E { s with heap := h, toks := tk })
    (done : ∀ m₁ nx h tk, J n m₁ nx → Fr h₀ env.locals h m₁ → News h₀ env.locals h nx → Q .next { s with heap := h, toks := tk }) :
    wpAny (model prog w) A (pyIter (.ref r)) (fun it s₂ => LoopAtV prog w A h₀ env x body Q E it s₂) E s := by
  refine wpAny_pyIter_range hr hsmall ?_
  have W : Walks prog w A s.heap.objs.size [s.heap.objs.size] [s.heap.objs.size] n (fun i v => i < n ∧ ∃ t, v = .int (a₀ + i * 1) t)
      (fun i h => IsRangeIter h s.heap.objs.size (a₀ + (i : Nat) * 1) ((n : Int) - (i : Nat)) 1) := (Walks.range hh _ a₀ 1 n).bound
  refine loop_G J W (fun hm => absurd F.ns.lt ((List.mem_singleton.mp hm) ▸ Nat.lt_irrefl _)) (next_is_new F) (fun p hp e => absurd (Heap.lt_size (N p hp).1) (e ▸ Nat.lt_irrefl _)) (by show IsRangeIter _ _ _ _ _; rw [hn]; simpa using Heap.get?_push_size _ rfl) (fun i h e => ⟨_, e⟩) (F.push _) (fun p hp => ⟨Heap.get?_push_of_some _ (N p hp).1, (N p hp).2⟩) hj ?_ ?_
  · rintro i v m₁ nx h tk own hi ⟨_, t, rfl⟩ hJ ha hio F₁ N₁
    rw [Int.mul_one] at F₁
    exact turn i t m₁ nx h tk _ own hi hJ ha hio F₁ N₁
  · exact fun m₁ nx h tk hJ F₁ N₁ => done m₁ nx h tk hJ F₁ N₁
theorem iter_listG {l : Addr} {vs : List Value} (J : Nat → (Str → Option Value) → List (Addr × Obj) → Prop)
    (hh : A.handled = none) (hl : s.heap.IsList l vs.toArray) (hlL : l ≠ env.locals) (F : Fr h₀ env.locals s.heap m₀) (N : News h₀ env.locals s.heap news) (hj : J 0 m₀ news)
    (turn : ∀ i v m₁ nx h tk I own, vs[i]? = some v → J i m₁ nx → (∀ p ∈ nx, p.1 ≠ I) → (∃ io, (I, io) ∈ own) → Fr h₀ env.locals h (fun y => if y = x then some v else m₁ y) → News h₀ env.locals h (nx ++ own) →
      wpAny (model prog w) A (execs body env) (PostG h₀ env.locals (J (i + 1)) I own { s with heap := h, toks := tk } Q) E { s with heap := h, toks := tk })
    (done : ∀ m₁ nx h tk, J vs.length m₁ nx → Fr h₀ env.locals h m₁ → News h₀ env.locals h nx → Q .next { s with heap := h, toks := tk }) :
    wpAny (model prog w) A (pyIter (.ref l)) (fun it s₂ => LoopAtV prog w A h₀ env x body Q E it s₂) E s := by
  obtain ⟨ol, hol, _⟩ := id hl
  have hne : l ≠ s.heap.objs.size := Nat.ne_of_lt (Heap.lt_size hol)
  refine wpAny_pyIter_list hl ?_
  have W := Walks.list (prog := prog) (w := w) hh s.heap.objs.size l hne vs.toArray
  have hlen : vs.toArray.size = vs.length := by simp
  rw [hlen] at W
  refine loop_G J W (fun hm => ?_) (next_is_new F) (fun p hp e => absurd (Heap.lt_size (N p hp).1) (e ▸ Nat.lt_irrefl _)) ⟨⟨_, Heap.get?_push_size _ rfl, rfl, rfl⟩, hl.at fun o e => Heap.get?_push_of_some _ e⟩ (fun i h e => let ⟨⟨o, h1, _⟩, _⟩ := e; ⟨o, h1⟩) (F.push _) (fun p hp => ⟨Heap.get?_push_of_some _ (N p hp).1, (N p hp).2⟩) hj ?_ ?_
  · rcases List.mem_cons.mp hm with e | hm
    · exact absurd F.ns.lt (e ▸ Nat.lt_irrefl _)
    · exact hlL (List.mem_singleton.mp hm).symm
  · rintro i v m₁ nx h tk own hi hv hJ ha hio F₁ N₁
    exact turn i v m₁ nx h tk _ own (by simpa using hv) hJ ha hio F₁ N₁
  · exact fun m₁ nx h tk hJ F₁ N₁ => done m₁ nx h tk hJ F₁ N₁
end
end
section
local macro_rules | `(tactic| walk_at "pad") => `(tactic| skip)
open PySem PySem.W PyProof.Rows PySem.Calls
set_option maxRecDepth 100000
theorem filled14 : Mine.hd.heap_39 = Mine.hd.heap_39 ∧ PySem.Challenge.rw_ok0124_01 = PySem.Challenge.rw_ok0124_01 := by
  k_fill; exact ⟨rfl, rfl⟩
local macro_rules | `(tactic| walk_at "no loop") => `(tactic| ((walk_at "n0"); (walk_at "n1"); (walk_at "n2"); (walk_at "n3")))
local macro_rules | `(tactic| walk_at "st") => `(tactic| repeat' (first | (k_unfold; (try dsimp only)) | (k_end; wrow_close) | (walk_at "no loop"; walk1) | (walk_at "no loop"; dsimp only; walk1) | (walk_at "no loop"; leave1; walk_say "STEP leave1"; try dsimp only) | fail "no step"))
local macro_rules | `(tactic| walk_at "subscriptTail Name Name bytes int") => `(tactic| walk_at "s1")
theorem rsz {a b : Int} (h : a ≤ b) : Builtin.Range.rangeSize a b 1 = ((b - a).toNat : Int) := by
  unfold Builtin.Range.rangeSize
  rw [if_pos (by decide)]
  split <;> lia
theorem rsm {a b : Int} (h0 : 0 ≤ a) (h : a ≤ b) (hb : b < 1000000) : Builtin.Range.small a b 1 = true := by
  unfold Builtin.Range.small
  rw [rsz h]
  simp [Builtin.Range.rangeFitsLong]
  lia
theorem blk {c : UInt8} {b : Bool} (h : (decide ((c.toNat : Int) = 32) || (decide ((c.toNat : Int) = 9) || (decide ((c.toNat : Int) = 10) || (decide ((c.toNat : Int) = 11) || (decide ((c.toNat : Int) = 12) || (decide ((c.toNat : Int) = 13) || false)))))) = b) : isBl c = b := by
  rw [← h]
  have e : ∀ k : Nat, k < 256 → decide ((c.toNat : Int) = k) = (c == k.toUInt8) := fun k hk => by
    rw [Bool.eq_iff_iff]; simp only [decide_eq_true_eq, beq_iff_eq]
    constructor
    · intro h; apply UInt8.toNat_inj.mp; have : c.toNat = k := by lia
      rw [this]; simp; lia
    · rintro rfl; simp; lia
  rw [show decide ((c.toNat : Int) = 32) = _ from e 32 (by decide), show decide ((c.toNat : Int) = 9) = _ from e 9 (by decide), show decide ((c.toNat : Int) = 10) = _ from e 10 (by decide), show decide ((c.toNat : Int) = 11) = _ from e 11 (by decide), show decide ((c.toNat : Int) = 12) = _ from e 12 (by decide), show decide ((c.toNat : Int) = 13) = _ from e 13 (by decide)]
  unfold isBl
  simp [Bool.or_assoc]
theorem ij {i : Int} {j : Nat} (h : 0 ≤ i) : (i + (j : Int)).toNat = i.toNat + j := by lia
set_option maxHeartbeats 8000000 in
theorem end_spec {prog : Program} {w : World} {p : Program} {loose : List Str} {mean : ExcName → Option Value} {mg mb : Str → Option Value} {dp un : Nat} {gd : Option (List Code)} {cn : Str} {cs : Scope} {fa : Addr} {ccd : Value} {cl : List (Str × Addr)} {outer : List Env} {A₀ : Around} {base h₀ : Heap} {L : Addr} {m : Str → Option Value} {s : Shared} {Q E : Value → Shared → Prop}
    {news : List (Addr × Obj)} {o : List UInt8} {to ta : Tok} {i : Int}
    (B : Below A₀ base outer h₀) (F : Fr h₀ L s.heap m) (X : (Mine.hd.heap_39 w.params).In h₀) (N : News h₀ L s.heap news) (T : Top p loose mean mg mb h₀) (hk : cs.kind = .function)
    (hi : 0 ≤ i) (hi2 : i ≤ o.length) (hos : o.length < 100000) (hd : dp + 3 < recursionLimit) (hu : un + 24 < cLine)
    (ret : ∀ t h' tk', Fr h₀ L h' m → News h₀ L h' news → Q (.int (enF o i.toNat) t) { s with heap := h', toks := tk' }) :
    wpAny (model prog w) (ktrTop dp un gd cn cs L fa ccd cl outer) (call (.ref 147) [.bytes o.toArray to, .int i ta]) Q E s := by
  refine wpAny_call ?_
  k_dflt cell_enter
  clear N F
  rename Fr _ _ _ _ => F1
  replace F1 := lk2 F1
  walk_at "st"
  rename Fr _ _ _ _ => F1
  refine For_F F1 rfl rfl ?_
  walk_at "st"
  rename Fr _ _ _ _ => F1
  rename News _ _ _ _ => N1
  rename IsRange _ _ _ _ _ _ _ _ => r1
  refine iter_rangeG (fun j m₁ nx => nx = news ∧ m₁ "octets" = some (.bytes o.toArray to) ∧ enF o (i.toNat + j) = enF o i.toNat) rfl r1 (rsm hi (by simpa using hi2) (by simp; lia)) (rsz (by simpa using hi2)) F1 N1 ⟨rfl, rfl, rfl⟩ ?_ ?_
  · clear F1 N1 r1
    rintro j t m₁ nx h1 tk1 I own hj ⟨rfl, hm1, he⟩ hI hio F1 N1
    obtain ⟨u, rfl⟩ := pin1 hm1
    clear hm1
    have hj' : i + (j : Int) < o.length := by simp only [List.size_toArray] at hj; lia
    walk_at "st"
    · rename Fr _ _ _ _ => F2
      rename News _ _ _ _ => N2
      dsimp only
      unfold PostG
      dsimp only
      refine leaveK_ F2 N2 ?_
      intro kF kN
      refine ret' (x := enF o i.toNat) ret ?_ kF (fun p hp => kN p (List.mem_append_left _ hp))
      rw [← he, en_bl (by rw [← ij hi]; assumption) (blk (by assumption))]; lia
    · rename Fr _ _ _ _ => F2
      rename News _ _ _ _ => N2
      dsimp only
      unfold PostG
      dsimp only
      refine leaveK_ F2 N2 ?_
      intro kF kN
      refine ret' (x := enF o i.toNat) ret ?_ kF (fun p hp => kN p (List.mem_append_left _ hp))
      rename ((o : List UInt8)[_]? = some _) => hc
      rename ((_ : Int) = 35) => h35
      rw [c35 h35, ij hi] at hc
      rw [← he, en_35 hc]; lia
    · rename Fr _ _ _ _ => F2
      rename News _ _ _ _ => N2
      rename ((o : List UInt8)[_]? = some _) => hc
      rw [ij hi] at hc
      exact ⟨_, _, _, _, nx, rfl, F2, N2, (fun p hp => List.mem_append_left _ hp), (fun p hp => List.mem_append_right _ hp), hI, rfl, rfl, by rw [← he, en_go hc (blk (by assumption)) (n35 (by assumption)), Nat.add_assoc]⟩
  · clear F1 N1 r1
    rintro m₁ nx h1 tk1 ⟨rfl, hm1, he⟩ F1 N1
    obtain ⟨u, rfl⟩ := pin1 hm1
    clear hm1
    walk_at "st"
    refine ret' (x := enF o i.toNat) ret ?_ (by assumption) (by assumption)
    rw [← he, en_end (by simp; lia)]; simp; lia
theorem rem_step {o : List UInt8} {i j : Nat} {c : UInt8} {z : Nat} (hc : o[i + j]? = some c) (he : skRF o (i + j) = z) : (if ((c.toNat : Int) != 10) = true then skRF o (i + (j + 1)) else skF o (i + (j + 1))) = z := by
  by_cases h : (c.toNat : Int) = 10
  · rw [if_neg (by simp [h])]
    rw [c10 h] at hc
    rw [← he, skR_10 hc, sk_bl hc (by decide) (by decide), Nat.add_assoc]
  · rw [if_pos (by simp [bne, h]), ← he, skR_go hc (n10 h), Nat.add_assoc]
set_option maxHeartbeats 8000000 in
theorem begin_spec {prog : Program} {w : World} {p : Program} {loose : List Str} {mean : ExcName → Option Value} {mg mb : Str → Option Value} {dp un : Nat} {gd : Option (List Code)} {cn : Str} {cs : Scope} {fa : Addr} {ccd : Value} {cl : List (Str × Addr)} {outer : List Env} {A₀ : Around} {base h₀ : Heap} {L : Addr} {m : Str → Option Value} {s : Shared} {Q E : Value → Shared → Prop}
    {news : List (Addr × Obj)} {o : List UInt8} {to ta : Tok} {i : Int}
    (B : Below A₀ base outer h₀) (F : Fr h₀ L s.heap m) (X : (Mine.hd.heap_39 w.params).In h₀) (N : News h₀ L s.heap news) (T : Top p loose mean mg mb h₀) (hk : cs.kind = .function)
    (hi : 0 ≤ i) (hi2 : i ≤ o.length) (hos : o.length < 100000) (hd : dp + 3 < recursionLimit) (hu : un + 24 < cLine)
    (ret : ∀ t h' tk', Fr h₀ L h' m → News h₀ L h' news → Q (.int (skF o i.toNat) t) { s with heap := h', toks := tk' }) :
    wpAny (model prog w) (ktrTop dp un gd cn cs L fa ccd cl outer) (call (.ref 140) [.bytes o.toArray to, .int i ta]) Q E s := by
  refine wpAny_call ?_
  k_dflt cell_enter
  clear N F
  rename Fr _ _ _ _ => F1
  replace F1 := lk2 F1
  walk_at "st"
  rename Fr _ _ _ _ => F1
  refine For_F F1 rfl rfl ?_
  walk_at "st"
  rename Fr _ _ _ _ => F1
  rename News _ _ _ _ => N1
  rename IsRange _ _ _ _ _ _ _ _ => r1
  refine iter_rangeG (fun j m₁ nx => nx = news ∧ ∃ r : Bool, m₁ "octets" = some (.bytes o.toArray to) ∧ m₁ "is_remark" = some (.bool r) ∧ (if r = true then skRF o (i.toNat + j) else skF o (i.toNat + j)) = skF o i.toNat) rfl r1 (rsm hi (by simpa using hi2) (by simp; lia)) (rsz (by simpa using hi2)) F1 N1 ⟨rfl, false, rfl, rfl, rfl⟩ ?_ ?_
  · clear F1 N1 r1
    rintro j t m₁ nx h1 tk1 I own hj ⟨rfl, r, hm1, hm2, he⟩ hI hio F1 N1
    obtain ⟨u, rfl⟩ := pin2 hm1 hm2
    clear hm1 hm2
    have hj' : i + (j : Int) < o.length := by simp only [List.size_toArray] at hj; lia
    cases r
    · simp only [Bool.false_eq_true, if_false] at he
      walk_at "st"
      · rename Fr _ _ _ _ => F2
        rename News _ _ _ _ => N2
        rename ((o : List UInt8)[_]? = some _) => hc
        rename ((_ : Int) = 35) => h35
        rw [c35 h35, ij hi] at hc
        exact ⟨_, _, _, _, nx, rfl, F2, N2, (fun p hp => List.mem_append_left _ hp), (fun p hp => List.mem_append_right _ hp), hI, rfl, true, rfl, rfl, by rw [if_pos rfl, ← he, sk_35 hc, ← Nat.add_assoc, skR_go hc (by decide)]⟩
      · rename Fr _ _ _ _ => F2
        rename News _ _ _ _ => N2
        rename ((o : List UInt8)[_]? = some _) => hc
        rw [ij hi] at hc
        exact ⟨_, _, _, _, nx, rfl, F2, N2, (fun p hp => List.mem_append_left _ hp), (fun p hp => List.mem_append_right _ hp), hI, rfl, false, rfl, rfl, by rw [if_neg (by decide), ← he, sk_bl hc (blk (by assumption)) (n35 (by assumption)), Nat.add_assoc]⟩
      · rename Fr _ _ _ _ => F2
        rename News _ _ _ _ => N2
        (try unfold PostG)
        dsimp only
        refine leaveK_ F2 N2 ?_
        intro kF kN
        refine ret' (x := skF o i.toNat) ret ?_ kF (fun p hp => kN p (List.mem_append_left _ hp))
        rename ((o : List UInt8)[_]? = some _) => hc
        rw [ij hi] at hc
        rw [← he, sk_stop hc (blk (by assumption)) (n35 (by assumption))]; lia
    · simp only [if_true] at he
      walk_at "st"
      rename Fr _ _ _ _ => F2
      rename News _ _ _ _ => N2
      rename ((o : List UInt8)[_]? = some _) => hc
      rw [ij hi] at hc
      refine ⟨_, _, _, _, nx, rfl, F2, N2, (fun p hp => List.mem_append_left _ hp), (fun p hp => List.mem_append_right _ hp), hI, rfl, _, rfl, rfl, rem_step hc he⟩
  · clear F1 N1 r1
    rintro m₁ nx h1 tk1 ⟨rfl, r, hm1, hm2, he⟩ F1 N1
    obtain ⟨u, rfl⟩ := pin2 hm1 hm2
    clear hm1 hm2
    walk_at "st"
    refine ret' (x := skF o i.toNat) ret ?_ (by assumption) (by assumption)
    rw [← he, skR_end (by simp; lia), sk_end (by simp; lia)]; simp; lia
end
section
open PySem PySem.W PyProof.Rows PySem.Calls
set_option maxRecDepth 100000
theorem filled15 : Mine.hd.heap_39 = Mine.hd.heap_39 ∧ PySem.Challenge.rw_ok0124_01 = PySem.Challenge.rw_ok0124_01 := by
  k_fill; exact ⟨rfl, rfl⟩
local macro_rules | `(tactic| walk_at "no loop") => `(tactic| ((walk_at "n0"); (walk_at "n1"); (walk_at "n2"); (walk_at "n3")))
local macro_rules | `(tactic| walk_at "subscriptTail Name Name bytes int") => `(tactic| walk_at "s1")
theorem forIn_steps {α β : Type} {f : α → β → Sem (ForInStep β)} : ∀ {l : List α} (st : Nat → β), (∀ k x, l[k]? = some x → f x (st k) = pure (.yield (st (k + 1)))) → forIn l (st 0) f = pure (st l.length)
  | [], st, _ => by rw [List.forIn_nil]; rfl
  | a :: r, st, h => by
    rw [List.forIn_cons, h 0 a rfl, pure_bind]
    exact forIn_steps (l := r) (fun k => st (k + 1)) fun k x hx => h (k + 1) x (by simpa using hx)
section
open Builtin
theorem asc_run {o : List UInt8} {id : String} (hz : o.length ≤ 16000000) (hlt : ∀ c ∈ o, c.toNat < 128) : _codecs.runDecoder id _codecs.asciiDecoder none true o.toArray 0 [] = pure ((o.map (·.toNat)).toArray, o.length) := by
  unfold _codecs.runDecoder
  simp only [Std.Legacy.Range.forIn_eq_forIn_range']
  refine (congrArg (fun z : Sem (Nat × Array Nat × _codecs.Faults) => z >>= fun r => pure (r.2.1, r.1)) (forIn_steps (fun k => (k, ((o.take k).map (·.toNat)).toArray, ({} : _codecs.Faults))) (fun k x hx => ?_))).trans ?_
  · have hk : k < o.length := by
      have := (List.getElem?_eq_some_iff.mp hx).1
      simpa [Std.Legacy.Range.size] using this
    have hsz : ¬ ((o.take k).map (·.toNat)).toArray.size > sizeLine := by rw [sizeLine_eq]; simp; lia
    rw [if_neg hsz, if_neg (by simp; lia)]
    have hc : ((o.toArray.getD k 0).toNat) < 128 := by
      rw [show o.toArray.getD k 0 = o[k] by simp [Array.getD, hk]]
      exact hlt _ (List.getElem_mem hk)
    have hf : _codecs.asciiDecoder.find true o.toArray k = .text [o[k].toNat] (k + 1) := by
      show (if (o.toArray.getD k 0).toNat < 128 then _codecs.Found.char (o.toArray.getD k 0).toNat (k + 1) else _) = _
      rw [if_pos hc, show o.toArray.getD k 0 = o[k] by simp [Array.getD, hk]]
      rfl
    rw [hf]
    simp only []
    congr 2
    rw [List.take_add_one]
    simp [hk, List.map_take]
    rw [List.take_add_one]
    simp [hk]
  · rw [pure_bind]
    simp [Std.Legacy.Range.size]
theorem road_asc {id : String} {b : Array UInt8} : _codecs.decodeRoad id b (PySem.Str.ofString "ascii") none [] = (_codecs.runDecoder id _codecs.asciiDecoder none true b 0 [] >>= fun r => mkStr ⟨r.1⟩) := by kernel_rfl
theorem meets_asc {b : Array UInt8} {x : PySem.Str} {n : Nat} {t t1 t2 : Tok} {d : PySem.Str} (hd : ∀ id, _codecs.runDecoder id _codecs.asciiDecoder none true b 0 [] = pure (x.cps, n)) :
    Meets («_codecs.decode.text» ⟨[.bytes b t, .str (PySem.Str.ofString "ascii") t1, .none, .str d t2], []⟩) (fun _ R s => x.length ≤ sizeLine ∧ R (.ok (.ret (.str x s.toks))) { s with toks := s.toks + 1 }) := by
  refine .of_wp fun prog w A R s hS => ?_
  obtain ⟨hsz, h⟩ := hS
  show wpAny _ _ (Bytes.bytesLike _ (.bytes b t) >>= fun r => _) _ _ s
  refine wpAny_bind (wpAny_of_eq KBd.like_eq ?_)
  refine wpAny_bind (wpAny_of_eq KBd.held_eq ?_)
  show wpAny _ _ (_codecs.decodeRoad _ b (PySem.Str.ofString "ascii") none [] >>= fun v => _) _ _ s
  rw [road_asc, hd]
  refine wpAny_bind (wpAny_bind (wpAny_pure ?_))
  exact wpAny_mkStr (wpAny_pure ⟨_, rfl, h⟩) hsz
theorem entry_asc {c : UInt8} {cs : List UInt8} {t u : Tok} : «bytes.decode» ⟨[.bytes (c :: cs).toArray t, .str (PySem.Str.ofString "ascii") u], []⟩ = (mkStr (PySem.Str.ofString "utf-8") >>= fun _ => mkStr (PySem.Str.ofString "ascii") >>= fun e => mkStr (PySem.Str.ofString "bytes.decode") >>= fun d =>
    call (.builtin "_codecs.decode.text") [.bytes (c :: cs).toArray t, e, .none, d] >>= fun v => ret v) := by kernel_rfl
theorem args_decode_2 (a b : Value) : argsOk "bytes.decode" ⟨[a, b], []⟩ := by
  unfold argsOk; rw [signature?_of (id := "bytes.decode") (n := ['e', 'd', 'o', 'c', 'e', 'd']) (o := ['s', 'e', 't', 'y', 'b']) (by kernel_rfl) FB.owner_bytes]; kernel_rfl
theorem meets_dec {c : UInt8} {cs : List UInt8} {x : PySem.Str} {n : Nat} {t u : Tok} (hd : ∀ id, _codecs.runDecoder id _codecs.asciiDecoder none true (c :: cs).toArray 0 [] = pure (x.cps, n)) :
    Meets («bytes.decode» ⟨[.bytes (c :: cs).toArray t, .str (PySem.Str.ofString "ascii") u], []⟩) (fun _ R s => x.length ≤ sizeLine ∧ ∀ t' k, R (.ok (.ret (.str x t'))) { s with toks := k }) := by
  refine .of_wp fun prog w A R s hS => ?_
  obtain ⟨hsz, h⟩ := hS
  rw [entry_asc]
  refine wpAny_bind (wpAny_mkStr ?_ (by decide))
  refine wpAny_bind (wpAny_mkStr ?_ (by decide))
  refine wpAny_bind (wpAny_mkStr ?_ (by decide))
  exact wpAny_bind (call_function_meets KBd.kind_text KBd.plain_text KBd.entry_text (KBd.args_text _ _ _ _) (meets_asc hd) ⟨hsz, wpAny_pure ⟨_, rfl, h _ _⟩⟩)
def strB (o : List UInt8) : PySem.Str := ⟨(o.map (·.toNat)).toArray⟩
theorem dec_asc {prog : Program} {w : World} {A : Around} {E : Value → Shared → Prop} {s : Shared} {o : List UInt8} {t u : Tok} {Q : Value → Shared → Prop} (hne : o ≠ []) (hz : o.length ≤ 16000000) (hlt : ∀ c ∈ o, c.toNat < 128) (h : ∀ t' k, Q (.str (strB o) t') { s with toks := k }) :
    wpAny (model prog w) A (call (.builtin "bytes.decode") [.bytes o.toArray t, .str (PySem.Str.ofString "ascii") u]) Q E s := by
  cases o with
  | nil => exact absurd rfl hne
  | cons c cs =>
    exact call_meets FB.slot_bytes_decode (typeIs_bytes _ _ _) FB.entry_bytes_decode (args_decode_2 _ _) (meets_dec (x := strB (c :: cs)) fun id => asc_run hz hlt) ⟨by rw [sizeLine_eq]; show ((c :: cs).map (·.toNat)).toArray.size ≤ _; simp at hz ⊢; lia, h⟩
end
theorem digs_all {o : List UInt8} (h : o.all isDig = true) : ∀ c ∈ o, 48 ≤ c.toNat ∧ c.toNat ≤ 57 := fun c hc => by
  have := List.all_eq_true.mp h c hc
  unfold isDig at this
  simp at this
  lia
theorem valL_digits {o : List UInt8} (h : o.all isDig = true) : ∀ (a : Nat), (((o.map (·.toNat)).foldl (fun acc c => acc * 10 + (c - 48)) a : Nat) : Int) = (o.foldl (fun (a : Int) (c : UInt8) => a * 10 + (c.toNat : Int) - 48) (a : Int)) := by
  induction o with
  | nil => intro a; rfl
  | cons c r ih =>
    intro a
    have hc := digs_all h c (.head _)
    rw [List.map_cons, List.foldl_cons, List.foldl_cons, ih (by rw [List.all_cons, Bool.and_eq_true] at h; exact h.2)]
    congr 1
    lia
theorem int_digits {o : List UInt8} (h : o.all isDig = true) (hne : o ≠ []) (hl : o.length ≤ 9) : PySem.intText? (strB o) = some (valL o) := by
  have e := intText_digits (x := strB o) (by
    intro c hc
    obtain ⟨b, hb, rfl⟩ := List.mem_map.mp (by simpa [strB] using hc)
    exact digs_all h b hb) (by simpa [strB] using hne) (by show (o.map (·.toNat)).toArray.size ≤ _; simp; lia)
  rw [e]
  congr 1
  exact valL_digits h 0
/-- a list is not [] -/
theorem ne_nil {prog : Program} {w : World} {A : Around} {E : Value → Shared → Prop} {s : Shared} {h₀ : Heap} {L D l : Addr} {news : List (Addr × Obj)} {vs : List Value} {n k : Nat} {Q : Value → Shared → Prop}
    (N : News h₀ L s.heap news) (hD : (D, lstO vs n) ∈ news) (hl : (l, W.listOf #[] k) ∈ news) (hu : A.units < cLine) (h : Q (.bool (!vs.isEmpty)) s) : wpAny (model prog w) A (compareOp .NotEq (.ref D) (.ref l)) Q E s := by
  have hD' : s.heap.IsList D vs.toArray := N.isList hD
  have hl' : s.heap.IsList l #[] := N.isList hl
  refine cmp_ofNotEq ?_
  cases vs with
  | nil => exact SeqAt.RcNeAt.lists (e := fun _ => true) hD' hl' rfl hu (fun j h1 => by simp at h1) prog w E Q h
  | cons v r => exact SeqAt.RcNeAt.lists_lengths hD' hl' (by simp) hu prog w E Q h
def ndV (v : Value) : Bool := match v with | .int k _ => !(decide (48 ≤ k) && decide (k ≤ 57)) | _ => false
theorem paired_nil {α β : Type} {F : α → β → Prop} : ∀ {l : List α} {r : List β}, Paired F l r → (r = [] ↔ l = [])
  | _, _, .nil => by simp
  | _, _, .cons _ _ => by simp
theorem filter_nd : ∀ {o : List UInt8} {vs : List Value}, vs.length = o.length → (∀ (j : Nat) (v : Value), vs[j]? = some v → ∃ (c : UInt8) (u : Tok), o.toArray[j]? = some c ∧ v = Value.int (c.toNat : Int) u) → (vs.filter ndV = [] ↔ o.all isDig = true)
  | [], [], _, _ => by simp
  | [], _ :: _, h, _ => by cases h
  | _ :: _, [], h, _ => by cases h
  | c :: r, a :: l, h1, h2 => by
    obtain ⟨c', u, hc, rfl⟩ := h2 0 a rfl
    have e : c' = c := by simpa using hc.symm
    subst e
    have ih := filter_nd (o := r) (vs := l) (by simpa using h1) (fun j v hj => by
      obtain ⟨c, u, hc, e⟩ := h2 (j + 1) v (by simpa using hj)
      exact ⟨c, u, by simpa using hc, e⟩)
    rw [List.all_cons, Bool.and_eq_true, ← ih, List.filter_cons]
    have hx : ndV (Value.int (c'.toNat : Int) u) = !isDig c' := rfl
    rw [hx]
    cases isDig c' <;> simp
theorem comp_nodig {prog : Program} {w : World} {A : Around} {E : Value → Shared → Prop} {s : Shared} {env : Env} {x y : Str} {px py p1 p2 p3 p4 p5 p6 pos : Pos} {o : List UInt8} {to : Tok} {h₀ : Heap} {L : Addr} {m : Str → Option Value} {news : List (Addr × Obj)} {scope : Scope} {Q : Value → Shared → Prop}
    (hh : A.handled = none) (F : Fr h₀ L s.heap m) (N : News h₀ L s.heap news) (hz : o.length < 100000)
    (hy : ∀ (Q' : Value → Shared → Prop), Q' (.bytes o.toArray to) s → wpAny (model prog w) A (eval (.Name y py) env) Q' E s)
    (hfree : ∀ y ∈ scope.names, y.2 ≠ .free) (hcell : ∀ y ∈ scope.names, y.2 ≠ .cell) (hkind : scope.kind = .function)
    (hnames : ∀ y ∈ scope.names, y.2 = .local → scope.names.lookup y.1 = some .local) (hx : scope.names.lookup x = some .local) (hd : (x == ("__debug__" : Str)) = false)
    (h : ∀ D n vs h' tk, (vs = [] ↔ o.all isDig = true) → Fr h₀ L h' m → News h₀ L h' ((D, lstO vs n) :: news) → (∀ p ∈ news, p.1 ≠ D) → Q (.ref D) { s with heap := h', toks := tk }) :
    wpAny (model prog w) A (eval (.ListComp (.Name x p5) [⟨.Name x px, .Name y py, [.UnaryOp .Not (.Compare (.Constant (.int 48) 0 p1) [.LtE, .LtE] [.Name x p2, .Constant (.int 57) 0 p3] p4) p6], 0⟩] scope pos) env) Q E s := by
  refine wpAny_ListComp_walk (p := ndV) (F := fun v b => True) hfree hcell hkind hnames hx (hy _ (KBw.pyIter_bytes ?_))
  refine ⟨s.heap.objs.size, [s.heap.objs.size], [s.heap.objs.size], o.toArray.size, _, _, rfl, KBw.walks hh s.heap.objs.size o.toArray to, ?_, ⟨_, Heap.get?_push_size _ rfl, rfl, rfl⟩, ?_, ⟨?_, ?_⟩, ?_⟩
  · rw [sizeLine_eq, List.size_toArray]; lia
  · intro b hb; rw [List.mem_singleton.mp hb]; exact Heap.lt_size (Heap.get?_push_size _ rfl)
  · rintro C i v s₃ m₃ E' ⟨c, u, hc, rfl⟩ hn hv _ _
    rw [List.forIn_cons]
    refine wpAny_bind ?_
    rw [if_pos rfl]
    refine wpAny_bind (wpAny_isTrue_Not (dig_test (env := compEnv scope C env) hkind (by show Env.kindOf (compEnv scope C env) x = _; unfold Env.kindOf compEnv; exact hx) hn hv hd fun tk => ?_))
    refine wpAny_pure ?_
    show wpAny _ _ (forIn [] _ _) _ _ _
    rw [List.forIn_nil]
    exact wpAny_pure ⟨rfl, s₃.heap, tk, rfl, fun _ _ e => e⟩
  · rintro C i v s₃ m₃ E' ⟨c, u, hc, rfl⟩ _ hn hv _ _
    exact wpAny_Name (wpAny_loadName_local (env := compEnv scope C env) hkind (by show Env.kindOf (compEnv scope C env) x = _; unfold Env.kindOf compEnv; exact hx) hn hv ⟨trivial, s₃.heap, s₃.toks, rfl, fun _ _ e => e⟩) hd
  · intro D h' tk ys vs hD hl hpl hlen hP hF hk
    have hkeep : ∀ b o', s.heap.get? b = some o' → h'.get? b = some o' := fun b o' e => hk b o' (fun hm => Nat.ne_of_lt (Heap.lt_size e) (List.mem_singleton.mp hm)) (Heap.get?_push_of_some _ e)
    obtain ⟨n, hpl⟩ := hpl
    have hold : ∀ b o', s.heap.get? b = some o' → b ≠ D := fun b o' e q => by
      have h9 : (s.heap.push { cls := .type "bytes_iterator", data := .fields #[.bytes o.toArray to, .int 0 0] }).get? b = some o' := Heap.get?_push_of_some _ e
      rw [q, hD] at h9; cases h9
    have hys : ys.toList = [] ↔ o.all isDig = true := by
      rw [paired_nil hF]
      exact filter_nd (by simpa using hlen) hP
    refine h D n ys.toList h' tk hys (F.keeps hkeep) (fun p hp => ?_) (fun p hp => hold _ _ (N p hp).1)
    rcases List.mem_cons.mp hp with rfl | hp
    · obtain ⟨oL, _, _, hL, _⟩ := F.ns
      refine ⟨?_, Ne.symm (hold _ _ hL), ?_⟩
      · rw [hpl]
      · cases q : h₀.get? D with
        | none => rfl
        | some o' => exact absurd rfl (hold D o' (F.keep D o' q))
    · exact ⟨hkeep _ _ (N p hp).1, (N p hp).2⟩
set_option maxHeartbeats 8000000 in
theorem value_spec {prog : Program} {w : World} {p : Program} {loose : List Str} {mean : ExcName → Option Value} {mg mb : Str → Option Value} {dp un : Nat} {gd : Option (List Code)} {cn : Str} {cs : Scope} {fa : Addr} {ccd : Value} {cl : List (Str × Addr)} {outer : List Env} {A₀ : Around} {base h₀ : Heap} {L : Addr} {m : Str → Option Value} {s : Shared} {Q E : Value → Shared → Prop}
    {news : List (Addr × Obj)} {o : List UInt8} {to : Tok}
    (B : Below A₀ base outer h₀) (F : Fr h₀ L s.heap m) (X : (Mine.hd.heap_39 w.params).In h₀) (N : News h₀ L s.heap news) (T : Top p loose mean mg mb h₀) (hk : cs.kind = .function)
    (hos : o.length < 100000) (hd : dp + 6 < recursionLimit) (hu : un + 80 < cLine)
    (ret : o ≠ [] → o.length ≤ 9 → o.all isDig = true → ∀ t h' tk', Fr h₀ L h' m → News h₀ L h' news → Q (.int (valL o) t) { s with heap := h', toks := tk' })
    (rng : (o = [] ∨ 9 < o.length ∨ o.all isDig = false) → ∀ t h' tk', Fr h₀ L h' m → News h₀ L h' news → Q (.str ("range" : Str) t) { s with heap := h', toks := tk' }) :
    wpAny (model prog w) (ktrTop dp un gd cn cs L fa ccd cl outer) (call (.ref 159) [.bytes o.toArray to]) Q E s := by
  refine wpAny_call ?_
  k_dflt cell_enter
  refine noE ?_
  clear N F
  rename Fr _ _ _ _ => F1
  replace F1 := lk1 F1
  replace F1 : Fr _ _ _ (fun y => if y = ("letters" : Str) then some (.bytes o.toArray to) else none) := F1
  walk_at "st"
  · rename Fr h₀ L _ m => FG
    rename News h₀ L _ _ => N2
    exact rng (.inl (by rename ((_ == _) = true) => hb; exact eq_of_beq hb)) _ _ _ FG N2
  · rename Fr h₀ L _ m => FG
    rename News h₀ L _ _ => N2
    exact rng (.inr (.inl (by simp only [List.size_toArray] at *; lia))) _ _ _ FG N2
  rename Fr _ _ _ (fun y => ite _ _ _) => F1
  rename News _ _ _ _ => N1
  refine comp_nodig (o := o) (to := to) rfl F1 N1 hos (fun Q' hq => ?_) (by decide) (by decide) rfl (by decide) rfl (by decide) ?_
  · k_dflt (refine' ld ?k1 ?k2 ?_; (case k1 => k_asm); (case k2 => exact rfl))
    exact hq
  clear F1 N1
  intro D n vs h1 tk1 hvs F1 N1 hD
  walk_at "st"
  refine ne_nil ‹News _ _ _ _› (.tail _ (.head _)) (.head _) ?_ ?_
  · walk_at "un"
  walk_at "st"
  · rename (List.isEmpty _ = true) => hv
    have hall := hvs.mp (List.isEmpty_iff.mp hv)
    have hne : o ≠ [] := fun e => by subst e; rename ((_ == _) = false) => hb; exact absurd hb (by decide)
    have hl9 : o.length ≤ 9 := by simp only [List.size_toArray] at *; lia
    refine dec_asc hne (by lia) (fun c hc => by have := digs_all hall c hc; lia) ?_
    intro t' k
    have hint := int_digits hall hne hl9
    have hlen : (strB o).length ≤ 640 := by show (o.map (·.toNat)).toArray.size ≤ _; simp; lia
    walk_at "st"
    rename Fr h₀ L _ m => FG
    rename News h₀ L _ _ => N2
    exact ret hne hl9 hall _ _ _ FG (fun p hp => N2 p (.tail _ (.tail _ hp)))
  · rename (List.isEmpty _ = false) => hv
    have hall : o.all isDig = false := by
      cases h9 : o.all isDig with
      | false => rfl
      | true => rw [hvs.mpr h9] at hv; cases hv
    rename Fr h₀ L _ m => FG
    rename News h₀ L _ _ => N2
    exact rng (.inr (.inr hall)) _ _ _ FG (fun p hp => N2 p (.tail _ (.tail _ hp)))
end
section
open PySem PySem.W PyProof.Rows PySem.Calls
set_option maxRecDepth 100000
theorem filled16 : Mine.hd.heap_39 = Mine.hd.heap_39 ∧ PySem.Challenge.rw_ok0124_01 = PySem.Challenge.rw_ok0124_01 := by
  k_fill; exact ⟨rfl, rfl⟩
theorem among_snoc {pos : Pos} {a b : Int} {c v : Value} (l : List Value) (h : TriplesOk l) (e : codeAmong pos (l ++ [rawInt a, rawInt b, c]) = some v) : codeAmong pos l = some v ∨ v = c := by
  fun_induction TriplesOk l with
  | case1 =>
    simp only [List.nil_append, rawInt, codeAmong] at e
    split at e
    · exact .inr (Option.some.inj e).symm
    · cases e
  | case2 i t j u x rest ih =>
    simp only [List.cons_append, codeAmong] at e ⊢
    split at e
    · rename_i h9; rw [if_pos h9]; exact .inl e
    · rename_i h9; rw [if_neg h9]; exact ih h e
  | case3 => exact h.elim
/-- a table of lambdas' codes: each code that it names stands in the ledger -/
def LamTab (q : Str) (ps : Array Value) (cod : List (Addr × Obj)) : Prop :=
  TriplesOk ps.toList ∧ ∀ pos v, codeAmong pos ps.toList = some v → ∃ c' oc vs t, v = .ref c' ∧ (c', oc) ∈ cod ∧ oc.data = .fields vs ∧ vs[1]? = some (.str q t)
theorem lamTab0 {q : Str} : LamTab q #[] [] := ⟨trivial, fun _ _ e => nomatch e⟩
section
variable {M : Model} {A : Around} {E : Value → Shared → Prop} {s : Shared} {h₀ : Heap} {L a c P : Addr} {m mg mb : Str → Option Value} {cn : Str} {cs : Scope} {ccd : Value} {cl : List (Str × Addr)} {fr cod rest : List (Addr × Obj)}
  {p : Program} {loose : List Str} {mean : ExcName → Option Value} {qual : Str} {params : Arguments} {body : PySem.Expr} {scope : Scope} {ps : Array Value} {pos : Pos} {clos : List (Str × Addr)}
theorem updF_at {a : Addr} {o : Obj} : ∀ (fr : List (Addr × Obj)) {rest : List (Addr × Obj)}, (∀ q ∈ fr ++ rest, q.1 ≠ a) → UpdF a o (fr ++ (a, o) :: rest) (fun o' => fr ++ (a, o') :: rest)
  | [], _, h => .head h
  | p :: fr, _, h => .tail (h p (.head _)) (updF_at fr fun q hq => h q (.tail _ hq))
theorem lam_make {Q : Value → Shared → Prop} (F : Fr h₀ L s.heap m) (N : News h₀ L s.heap (fr ++ (P, tabObj ps) :: (cod ++ rest))) (T : Top p loose mean mg mb h₀) (C : CodeHd h₀ c P) (hcd : ccd = .ref c) (I : LamTab qual ps cod)
    (hap : ∀ q ∈ fr ++ (cod ++ rest), q.1 ≠ P) (hap2 : ∀ q ∈ cod, ∀ r ∈ rest, q.1 ≠ r.1) (hcl : closureFor scope (envX cn cs L a ccd cl) = pure clos) (hdef : defaultsOf params (envX cn cs L a ccd cl) = ([], [])) (hq : (envX cn cs L a ccd cl).qual ++ "<lambda>" = qual)
    (h : ∀ f c' oc vs t ctv h' tk ps' cod', LamTab qual ps' cod' → (c', oc) ∈ cod' → oc.data = .fields vs → vs[1]? = some (.str qual t) → Fr h₀ L h' m →
      News h₀ L h' ((f, kla_obj "<lambda>" qual params body scope clos ((mg "__name__").getD .none) c' ctv) :: (fr ++ (P, tabObj ps') :: (cod' ++ rest))) →
      (∀ q ∈ fr ++ (cod' ++ rest), q.1 ≠ P) → (∀ q ∈ cod', ∀ r ∈ rest, q.1 ≠ r.1) → (∀ q ∈ fr ++ (P, tabObj ps') :: (cod' ++ rest), q.1 < f) → Q (.ref f) { s with heap := h', toks := tk }) :
    wpAny M A (eval (.Lambda params body scope pos) (envX cn cs L a ccd cl)) Q E s := by
  refine kla_eval hdef ?_
  rw [hq]
  cases hca : codeAmong pos ps.toList with
  | none =>
    refine kla_nest F N T C hcd (updF_at fr hap) I.1 hca hcl fun f c' oc vs t ctv h' tk F' N' hd hv hlt hltf => ?_
    have hltc : ∀ q ∈ fr ++ (P, tabObj ps) :: (cod ++ rest), q.1 < c' := hlt
    have hmem : ∀ q ∈ fr ++ (cod ++ rest), q ∈ fr ++ (P, tabObj ps) :: (cod ++ rest) := fun q hq => (List.mem_append.mp hq).elim (fun h => List.mem_append_left _ h) fun h => List.mem_append_right _ (.tail _ h)
    have hPc : P < c' := hltc (P, tabObj ps) (List.mem_append_right _ (.head _))
    have hin : ∀ q ∈ fr ++ ((c', oc) :: cod ++ rest), q = (c', oc) ∨ q ∈ fr ++ (cod ++ rest) := fun q hq => (List.mem_append.mp hq).elim (fun h => .inr (List.mem_append_left _ h)) fun h => (List.mem_cons.mp h).imp id fun h => List.mem_append_right _ h
    refine h f c' oc vs t ctv h' tk (ps ++ #[rawInt pos.line, rawInt pos.col, .ref c']) ((c', oc) :: cod) ⟨?_, fun pos' v hv' => ?_⟩ (.head _) hd hv F' (fun q hq => N' q ?_) (fun q hq => ?_) (fun q hq r hr => ?_) (fun q hq => ?_)
    · rw [Array.toList_append]; exact TriplesOk_snoc _ _ _ _ I.1
    · rw [Array.toList_append] at hv'
      rcases among_snoc _ I.1 hv' with e | rfl
      · obtain ⟨c2, oc2, vs2, t2, e1, e2, e3⟩ := I.2 pos' v e
        exact ⟨c2, oc2, vs2, t2, e1, .tail _ e2, e3⟩
      · exact ⟨c', oc, vs, t, rfl, .head _, hd, hv⟩
    · rcases List.mem_cons.mp hq with rfl | hq
      · exact .head _
      · refine .tail _ ?_
        rcases List.mem_append.mp hq with h9 | h9
        · exact .tail _ (List.mem_append_left _ h9)
        · rcases List.mem_cons.mp h9 with rfl | h9
          · exact .tail _ (List.mem_append_right _ (.head _))
          · rcases List.mem_cons.mp h9 with rfl | h9
            · exact .head _
            · exact .tail _ (List.mem_append_right _ (.tail _ h9))
    · rcases hin q hq with rfl | hq
      · exact Nat.ne_of_gt hPc
      · exact hap q hq
    · rcases List.mem_cons.mp hq with rfl | hq
      · exact Nat.ne_of_gt (hltc r (List.mem_append_right _ (.tail _ (List.mem_append_right _ hr))))
      · exact hap2 q hq r hr
    · rcases List.mem_append.mp hq with h9 | h9
      · exact Nat.lt_trans (hltc q (List.mem_append_left _ h9)) hltf
      · rcases List.mem_cons.mp h9 with rfl | h9
        · exact Nat.lt_trans hPc hltf
        · rcases List.mem_cons.mp h9 with rfl | h9
          · exact hltf
          · exact Nat.lt_trans (hltc q (List.mem_append_right _ (.tail _ h9))) hltf
  | some v =>
    obtain ⟨c', oc, vs, t, rfl, hm, hd, hv⟩ := I.2 pos v hca
    exact kla_hit F N T C hcd (List.mem_append_right _ (.head _)) I.1 hca hcl fun f ctv h' tk F' N' hlt => h f c' oc vs t ctv h' tk ps cod I hm hd hv F' N' hap hap2 hlt
end
set_option maxHeartbeats 8000000 in
/-- _law_told over a lambda -/
theorem told_lam {prog : Program} {w : World} {p : Program} {loose : List Str} {mean : ExcName → Option Value} {mg mb : Str → Option Value} {dp un : Nat} {gd : Option (List Code)} {cn : Str} {cs : Scope} {fa : Addr} {ccd : Value} {cl : List (Str × Addr)} {outer : List Env} {A₀ : Around} {base h₀ : Heap} {L : Addr} {m : Str → Option Value} {s : Shared} {Q E : Value → Shared → Prop}
    {news : List (Addr × Obj)} {f : Addr} (P : Value → List (Addr × Obj) → Prop) (Pc Pr : Prop) {qual : Str} {body : PySem.Expr} {scope : Scope} {clos : List (Str × Addr)} {pm ctv : Value} {c' : Addr} {oc : Obj} {vs : Array Value} {t : Tok}
    (B : Below A₀ base outer h₀) (F : Fr h₀ L s.heap m) (X : (Mine.hd.heap_39 w.params).In h₀) (N : News h₀ L s.heap news) (T : Top p loose mean mg mb h₀) (hk : cs.kind = .function)
    (hf : (f, kla_obj "<lambda>" qual ⟨[], [], none, [], [], none, []⟩ body scope clos pm c' ctv) ∈ news) (hcm : (c', oc) ∈ news) (hcd : oc.data = .fields vs) (hcv : vs[1]? = some (.str qual t))
    (hsk : scope.kind = .function) (hsc : scope.isCoroutine = false) (hsg : scope.isGenerator = false) (hcell : ∀ x ∈ scope.names, x.2 ≠ .cell)
    (hd : dp + 12 < recursionLimit) (hu : un + 160 < cLine) (X₀ : (Mine.hd.heap_39 w.params).In base) (T₀ : Top p loose mean mg mb base)
    (hbody : ∀ g L₁ L' h₁ tk, Below ((ktrTop dp un gd cn cs L fa ccd cl outer).deeper (toldEnv L₁)) base (toldEnv L₁ :: envX cn cs L fa ccd cl :: outer) g → Fr g L' h₁ (fun _ => none) → News g L' h₁ news → (Mine.hd.heap_39 w.params).In g → Top p loose mean mg mb g →
      wpAny (model prog w) (((ktrTop dp un gd cn cs L fa ccd cl outer).deeper (toldEnv L₁)).deeper (envX qual scope L' f (.ref c') clos)) (eval body (envX qual scope L' f (.ref c') clos))
        (fun v s' => ∃ h' tk' news', s' = { s with heap := h', toks := tk' } ∧ Fr g L' h' (fun _ => none) ∧ News g L' h' news' ∧ P v news')
        (fun x s' => ∃ e C h' tk' g₂, x = .ref e ∧ s' = { s with heap := h', toks := tk' } ∧ Fr g L' g₂ (fun _ => none) ∧ RaisedN base (envX qual scope L' f (.ref c') clos :: toldEnv L₁ :: envX cn cs L fa ccd cl :: outer) e (.ref C) news h' ∧ g₂.UpToSlots h' ∧ (C = 44 ∧ Pc ∨ C = 56 ∧ Pr))
        { s with heap := h₁, toks := tk })
    (ret : ∀ v h' tk' news', P v news' → Fr h₀ L h' m → News h₀ L h' news' → Q v { s with heap := h', toks := tk' })
    (cau : ∀ h₀' h' tk' t (r : Str), (Pc ∧ r = "cut" ∨ Pr ∧ r = "range") → base.StaysIn h₀' → Below A₀ base outer h₀' → Fr h₀' L h' m → News h₀' L h' news →
      (∀ L₂ m₂, (∃ env ∈ outer, env.frame = some L₂) → Fr base L₂ h₀ m₂ → Fr base L₂ h₀' m₂) → Q (.str r t) { s with heap := h', toks := tk' }) :
    wpAny (model prog w) (ktrTop dp un gd cn cs L fa ccd cl outer) (call (.ref 154) [.ref f]) Q E s := by
  refine told_spec P Pc Pr B F X N T hk hf (by omega) (by omega) X₀ T₀ ?_ ret cau
  intro g L₁ h₁ tk B2 F2 N2 X2 T2 l2
  refine wpAny_call ?_
  refine kla_code B2 F2 X2 N2 T2 rfl rfl rfl hf (codeRec_news N2 hcm hcd hcv) ?_ rfl (fun y hy => nomatch hy) (fun g' L' h₂ FG F3 N3 B3 X3 T3 => ?_) hsc hsg hsk hcell
  · walk_at "rm"
  refine wpAny_mono (hbody g' L₁ L' h₂ _ B3 F3 N3 X3 T3) ?_ ?_
  · rintro v s' ⟨h', tk', news', rfl, F4, N4, hP⟩
    exact leaveK_ F4 N4 (fun kF kN => ⟨_, _, _, rfl, kF, kN, hP⟩)
  · rintro x s' ⟨e, C, h', tk', g₂, rfl, rfl, F4, R4, U4, hC⟩
    refine leave_on B3 F4 R4 U4 (fun h'' R5 U5 => ?_) rfl
    exact ⟨e, C, h'', tk', g', rfl, rfl, FG, R5, U5, hC⟩
end
local macro_rules | `(tactic| walk_at "n4") => `(tactic| (fail_if_success (with_reducible show wpAny _ _ (PySem.call (Value.ref _) _) _ _ _)))
section
local macro_rules | `(tactic| walk_at "pad") => `(tactic| skip)
open PySem PySem.W PyProof.Rows PySem.Calls
set_option maxRecDepth 100000
theorem filled16b : Mine.hd.heap_39 = Mine.hd.heap_39 ∧ PySem.Challenge.rw_ok0124_01 = PySem.Challenge.rw_ok0124_01 := by
  k_fill; exact ⟨rfl, rfl⟩
local macro_rules | `(tactic| walk_at "no loop") => `(tactic| ((walk_at "n0"); (walk_at "n4")))
abbrev lamS (n : Str) : Scope := { kind := ScopeKind.function, names := [(Str.ofString "at", NameKind.free), (Str.ofString "octets", NameKind.free), (n, NameKind.globalImplicit)], isGenerator := false, isCoroutine := false }
/-- what the body of a lambda leaves -/
abbrev BodyQ (g : Heap) (L' : Addr) (s : Shared) (P : Value → List (Addr × Obj) → Prop) (v : Value) (s' : Shared) : Prop :=
  ∃ h' tk' news', s' = { s with heap := h', toks := tk' } ∧ Fr g L' h' (fun _ => none) ∧ News g L' h' news' ∧ P v news'
abbrev BodyE (base g : Heap) (L' : Addr) (s : Shared) (envs : List Env) (news : List (Addr × Obj)) (Pc Pr : Prop) (x : Value) (s' : Shared) : Prop :=
  ∃ e C h' tk' g₂, x = .ref e ∧ s' = { s with heap := h', toks := tk' } ∧ Fr g L' g₂ (fun _ => none) ∧ RaisedN base envs e (.ref C) news h' ∧ g₂.UpToSlots h' ∧ (C = 44 ∧ Pc ∨ C = 56 ∧ Pr)
set_option maxHeartbeats 8000000 in
theorem body_word {prog : Program} {w : World} {p : Program} {loose : List Str} {mean : ExcName → Option Value} {mg mb : Str → Option Value} {dp un : Nat} {gd : Option (List Code)} {qual : Str} {f c' co ca : Addr} {outer : List Env} {A₀ : Around} {base g : Heap} {L' : Addr} {s : Shared}
    {news : List (Addr × Obj)} {oo oa : Obj} {o : List UInt8} {to ta : Tok} {i : Int} {b e : Nat} {p1 p2 p3 p4 : Pos} {h₁ : Heap} {tk : Nat}
    (B : Below A₀ base outer g) (F : Fr g L' h₁ (fun _ => none)) (X : (Mine.hd.heap_39 w.params).In g) (N : News g L' h₁ news) (T : Top p loose mean mg mb g)
    (ho : (co, oo) ∈ news) (hod : oo.data = .cell (some (.bytes o.toArray to))) (ha : (ca, oa) ∈ news) (had : oa.data = .cell (some (.int i ta)))
    (hi : 0 ≤ i) (hi2 : i ≤ o.length) (hos : o.length < 100000) (hb : b = skF o i.toNat) (he : e = enF o b) (hd : dp + 6 < recursionLimit) (hu : un + 48 < cLine) :
    wpAny (model prog w) (ktrTop dp un gd qual (lamS "next_word") L' f (.ref c') [(Str.ofString "octets", co), (Str.ofString "at", ca)] outer)
      (eval (.Call (.Name (Str.ofString "next_word") p1) [.Name (Str.ofString "octets") p2, .Name (Str.ofString "at") p3] [] p4) (envX qual (lamS "next_word") L' f (.ref c') [(Str.ofString "octets", co), (Str.ofString "at", ca)]))
      (BodyQ g L' s (fun v news' => b ≠ e ∧ ∃ t tb te, v = .ref t ∧ news' = (t, tupO [.bytes (wdF o b e).toArray tb, .int e te]) :: news ∧ ∀ p ∈ news, p.1 < t))
      (BodyE base g L' s (envX qual (lamS "next_word") L' f (.ref c') [(Str.ofString "octets", co), (Str.ofString "at", ca)] :: outer) news (b = e) False)
      { s with heap := h₁, toks := tk } := by
  have N1 : News g L' h₁ ((co, oo) :: (ca, oa) :: news) := fun p hp => (List.mem_cons.mp hp).elim (fun e => e ▸ N _ ho) fun hp => (List.mem_cons.mp hp).elim (fun e => e ▸ N _ ha) (N p)
  walk1
  walk1
  walk1
  walk1
  refine nameX_F N1 rfl (.head _) hod ?_
  walk1
  refine nameX_F N1 rfl (.tail _ (.head _)) had ?_
  walk1
  refine ⟨X.keeps F.keep, ?_⟩
  exact nword_spec B F X N T rfl hi hi2 hos hb he hd hu
    (fun hne t tb te h' tk' F' N' l1 => ⟨h', tk', _, rfl, F', N', hne, t, tb, te, rfl, rfl, l1⟩)
    (fun heq x h' tk' g₂ FG R U => ⟨x, 44, h', tk', g₂, rfl, rfl, FG, R, U, .inl ⟨rfl, heq⟩⟩)
set_option maxHeartbeats 8000000 in
theorem body_num {prog : Program} {w : World} {p : Program} {loose : List Str} {mean : ExcName → Option Value} {mg mb : Str → Option Value} {dp un : Nat} {gd : Option (List Code)} {qual : Str} {f c' co ca : Addr} {outer : List Env} {A₀ : Around} {base g : Heap} {L' : Addr} {s : Shared}
    {news : List (Addr × Obj)} {oo oa : Obj} {o : List UInt8} {to ta : Tok} {i : Int} {b e : Nat} {p1 p2 p3 p4 : Pos} {h₁ : Heap} {tk : Nat}
    (B : Below A₀ base outer g) (F : Fr g L' h₁ (fun _ => none)) (X : (Mine.hd.heap_39 w.params).In g) (N : News g L' h₁ news) (T : Top p loose mean mg mb g)
    (ho : (co, oo) ∈ news) (hod : oo.data = .cell (some (.bytes o.toArray to))) (ha : (ca, oa) ∈ news) (had : oa.data = .cell (some (.int i ta)))
    (hi : 0 ≤ i) (hi2 : i ≤ o.length) (hos : o.length < 100000) (hb : b = skF o i.toNat) (he : e = enF o b) (hd : dp + 8 < recursionLimit) (hu : un + 72 < cLine) :
    wpAny (model prog w) (ktrTop dp un gd qual (lamS "next_number") L' f (.ref c') [(Str.ofString "octets", co), (Str.ofString "at", ca)] outer)
      (eval (.Call (.Name (Str.ofString "next_number") p1) [.Name (Str.ofString "octets") p2, .Name (Str.ofString "at") p3] [] p4) (envX qual (lamS "next_number") L' f (.ref c') [(Str.ofString "octets", co), (Str.ofString "at", ca)]))
      (BodyQ g L' s (fun v news' => b ≠ e ∧ (wdF o b e).length ≤ 9 ∧ (wdF o b e).all isDig = true ∧ ∃ t tb te, v = .ref t ∧ news' = (t, tupO [.int (valL (wdF o b e)) tb, .int e te]) :: news ∧ ∀ p ∈ news, p.1 < t))
      (BodyE base g L' s (envX qual (lamS "next_number") L' f (.ref c') [(Str.ofString "octets", co), (Str.ofString "at", ca)] :: outer) news (b = e) (b ≠ e ∧ (9 < (wdF o b e).length ∨ (wdF o b e).all isDig = false)))
      { s with heap := h₁, toks := tk } := by
  have N1 : News g L' h₁ ((co, oo) :: (ca, oa) :: news) := fun p hp => (List.mem_cons.mp hp).elim (fun e => e ▸ N _ ho) fun hp => (List.mem_cons.mp hp).elim (fun e => e ▸ N _ ha) (N p)
  walk1
  walk1
  walk1
  walk1
  refine nameX_F N1 rfl (.head _) hod ?_
  walk1
  refine nameX_F N1 rfl (.tail _ (.head _)) had ?_
  walk1
  refine ⟨X.keeps F.keep, ?_⟩
  exact nnum_spec B F X N T rfl hi hi2 hos hb he hd hu
    (fun hne h1 h2 t tb te h' tk' F' N' l1 => ⟨h', tk', _, rfl, F', N', hne, h1, h2, t, tb, te, rfl, rfl, l1⟩)
    (fun heq x h' tk' g₂ FG R U => ⟨x, 44, h', tk', g₂, rfl, rfl, FG, R, U, .inl ⟨rfl, heq⟩⟩)
    (fun h1 h2 x h' tk' g₂ FG R U => ⟨x, 56, h', tk', g₂, rfl, rfl, FG, R, U, .inr ⟨rfl, h1, h2⟩⟩)
abbrev lamS1 (x n : Str) : Scope := { kind := ScopeKind.function, names := [(x, NameKind.free), (n, NameKind.globalImplicit)], isGenerator := false, isCoroutine := false }
set_option maxHeartbeats 8000000 in
theorem body_letters {prog : Program} {w : World} {p : Program} {loose : List Str} {mean : ExcName → Option Value} {mg mb : Str → Option Value} {dp un : Nat} {gd : Option (List Code)} {qual : Str} {f c' co : Addr} {outer : List Env} {A₀ : Around} {base g : Heap} {L' : Addr} {s : Shared}
    {news : List (Addr × Obj)} {oo : Obj} {o : List UInt8} {to : Tok} {p1 p2 p4 : Pos} {h₁ : Heap} {tk : Nat}
    (B : Below A₀ base outer g) (F : Fr g L' h₁ (fun _ => none)) (X : (Mine.hd.heap_39 w.params).In g) (N : News g L' h₁ news) (T : Top p loose mean mg mb g)
    (ho : (co, oo) ∈ news) (hod : oo.data = .cell (some (.bytes o.toArray to))) (hos : o.length < 100000) (hd : dp + 6 < recursionLimit) (hu : un + 48 < cLine) :
    wpAny (model prog w) (ktrTop dp un gd qual (lamS1 "letters" "number_of") L' f (.ref c') [(Str.ofString "letters", co)] outer)
      (eval (.Call (.Name (Str.ofString "number_of") p1) [.Name (Str.ofString "letters") p2] [] p4) (envX qual (lamS1 "letters" "number_of") L' f (.ref c') [(Str.ofString "letters", co)]))
      (BodyQ g L' s (fun v news' => o.length ≤ 9 ∧ o.all isDig = true ∧ ∃ t, v = .int (valL o) t ∧ news' = news))
      (BodyE base g L' s (envX qual (lamS1 "letters" "number_of") L' f (.ref c') [(Str.ofString "letters", co)] :: outer) news False (9 < o.length ∨ o.all isDig = false))
      { s with heap := h₁, toks := tk } := by
  have N1 : News g L' h₁ ((co, oo) :: news) := fun p hp => (List.mem_cons.mp hp).elim (fun e => e ▸ N _ ho) (N p)
  walk1
  walk1
  walk1
  walk1
  refine nameX_F N1 rfl (.head _) hod ?_
  walk1
  refine ⟨X.keeps F.keep, ?_⟩
  exact numof_spec B F X N T rfl hos hd hu
    (fun h1 h2 t h' tk' F' N' => ⟨h', tk', _, rfl, F', N', h1, h2, t, rfl, rfl⟩)
    (fun h1 x h' tk' g₂ FG R U => ⟨x, 56, h', tk', g₂, rfl, rfl, FG, R, U, .inr ⟨rfl, h1⟩⟩)
end
section
open PySem PySem.W PyProof.Rows PySem.Calls
set_option maxRecDepth 100000
theorem eqAt_bytes {A : Around} {s : Shared} {x : List UInt8} {t u : Tok} : SeqAt.EqAt A s (.bytes x.toArray t) (.bytes x.toArray u) true := fun prog w E Q h => by
  unfold eqBool
  refine wpAny_holding ?_
  refine wpAny_ite_split (fun _ => ?_) (fun _ => ?_)
  · exact wpAny_bind (wpAny_rule (wpAny_pure h))
  · exact wpAny_bind (cmp_ofEq (eq_bytes (by rw [beq_self_eq_true]; exact wpAny_truthy_bool h)))
section
variable {prog : Program} {w : World} {A : Around} {E : Value → Shared → Prop} {s : Shared} {h₀ : Heap} {L a b : Addr} {news : List (Addr × Obj)} {x1 x2 y1 y2 : Value} {Q : Value → Shared → Prop}
theorem isTup_of (N : News h₀ L s.heap news) {vs : List Value} (h : (a, tupO vs) ∈ news) : s.heap.IsTuple a vs.toArray := ⟨_, (N _ h).1, rfl, 0, rfl⟩
theorem eqs2 (e1 : SeqAt.EqAt A s x1 x2 true) (e2 : SeqAt.EqAt A s y1 y2 true) : ∀ j (h1 : j < [x1, y1].toArray.size) (h2 : j < [x2, y2].toArray.size), SeqAt.EqAt A s ([x1, y1].toArray[j]) ([x2, y2].toArray[j]) true
  | 0, _, _ => e1
  | 1, _, _ => e2
  | _ + 2, h, _ => by simp at h; omega
theorem ne_tup2 (N : News h₀ L s.heap news) (h1 : (a, tupO [x1, y1]) ∈ news) (h2 : (b, tupO [x2, y2]) ∈ news) (e1 : SeqAt.EqAt A.in1 s x1 x2 true) (e2 : SeqAt.EqAt A.in1 s y1 y2 true) (hu : A.units < cLine) (h : Q (.bool false) s) :
    wpAny (model prog w) A (compareOp .NotEq (.ref a) (.ref b)) Q E s :=
  cmp_ofNotEq (SeqAt.RcNeAt.tuples (e := fun _ => true) (isTup_of N h1) (isTup_of N h2) hu (eqs2 e1 e2) prog w E Q h)
theorem eq_tup2 (N : News h₀ L s.heap news) (h1 : (a, tupO [x1, y1]) ∈ news) (h2 : (b, tupO [x2, y2]) ∈ news) (e1 : SeqAt.EqAt A.in1 s x1 x2 true) (e2 : SeqAt.EqAt A.in1 s y1 y2 true) (hu : A.units < cLine) (h : Q (.bool true) s) :
    wpAny (model prog w) A (compareOp .Eq (.ref a) (.ref b)) Q E s :=
  cmp_ofEq (SeqAt.RcAt.tuples (e := fun _ => true) (isTup_of N h1) (isTup_of N h2) hu (eqs2 e1 e2) prog w E Q h)
end
theorem eqAt_int {A : Around} {s : Shared} {x : Int} {t u : Tok} : SeqAt.EqAt A s (.int x t) (.int x u) true := by
  have := SeqAt.EqAt.int_int (A := A) (s := s) x t x u
  rwa [beq_self_eq_true] at this
theorem skStop : ∀ (n : Nat) (l : List UInt8), l.length ≤ n → (skL l < l.length → ∃ c, l[skL l]? = some c ∧ isBl c = false ∧ c ≠ 35) ∧ (skR l < l.length → ∃ c, l[skR l]? = some c ∧ isBl c = false ∧ c ≠ 35)
  | 0, l, h => by cases l with
    | nil => exact ⟨fun h => absurd h (Nat.not_lt_zero _), fun h => absurd h (Nat.not_lt_zero _)⟩
    | cons _ _ => simp at h
  | n + 1, l, h => by
    cases l with
    | nil => exact ⟨fun h => absurd h (Nat.not_lt_zero _), fun h => absurd h (Nat.not_lt_zero _)⟩
    | cons c r =>
      have ih := skStop n r (by simp at h; omega)
      have up : ∀ {k}, (k < r.length → ∃ c, r[k]? = some c ∧ isBl c = false ∧ c ≠ 35) → 1 + k < (c :: r).length → ∃ c', (c :: r)[1 + k]? = some c' ∧ isBl c' = false ∧ c' ≠ 35 := fun {k} hk hlt => by
        rw [Nat.add_comm 1 k, List.getElem?_cons_succ]
        exact hk (by simp at hlt; omega)
      refine ⟨?_, ?_⟩
      · rw [skL]; split
        · exact up ih.2
        · split
          · exact up ih.1
          · intro _; exact ⟨c, rfl, by simpa using ‹¬ isBl c = true›, ‹_›⟩
      · rw [skR]; split
        · exact up ih.1
        · exact up ih.2
theorem sk_at {o : List UInt8} {i : Nat} (h : skF o i < o.length) : ∃ c, o[skF o i]? = some c ∧ isBl c = false ∧ c ≠ 35 := by
  have := (skStop _ (o.drop i) (Nat.le_refl _)).1 (by unfold skF at h; simp; omega)
  obtain ⟨c, h1, h2⟩ := this
  exact ⟨c, by rw [List.getElem?_drop] at h1; exact h1, h2⟩
theorem en_gt {o : List UInt8} {i : Nat} (h : skF o i < o.length) : skF o i < enF o (skF o i) := by
  obtain ⟨c, h1, h2, h3⟩ := sk_at h
  rw [en_go h1 h2 h3]
  exact Nat.lt_of_lt_of_le (Nat.lt_succ_self _) enF_ge
end
section
open PySem PySem.W PyProof.Rows PySem.Calls
set_option maxRecDepth 100000
theorem callWith_lam {M : Model} {A : Around} {E : Value → Shared → Prop} {s : Shared} {K : Frag} {h₀ : Heap} {pos p : Pos} {f : Value} {first : List Value} {env : Env} {ps : Arguments} {b : PySem.Expr} {sc : Scope} {Q : Value → Shared → Prop}
    (X : K.In h₀) (hk : keepIn K f = true) (h : wpAny M A (spliced (backTo pos (starEach [PySem.Expr.Lambda ps b sc p] env))) (fun vs s₁ => K.In s₁.heap ∧ wpAny M A (call f (first ++ vs)) Q E s₁) E s) :
    wpAny M A (callWith pos f first (backTo pos (starEach [PySem.Expr.Lambda ps b sc p] env)) []) Q E s := callWith_K X hk h
end
local macro_rules | `(tactic| walk_at "n5") => `(tactic| (fail_if_success (with_reducible show wpAny _ _ (eval (PySem.Expr.Lambda _ _ _ _) _) _ _ _)))
local macro_rules | `(tactic| walk_at "n6") => `(tactic| (fail_if_success (with_reducible show wpAny _ _ (PySem.call (Value.ref 154) _) _ _ _)))
local macro_rules | `(tactic| walk_at "n7") => `(tactic| (fail_if_success (with_reducible show wpAny _ _ (compareOp _ (Value.ref _) (Value.ref _)) _ _ _)))
local macro_rules | `(tactic| walk_at "s4") => `(tactic| (k_here; k_dflt (refine' callWith_K ?k1 ?k2 ?_; (case k1 => k_asm); (case k2 => k_is); k_whole)))
local macro_rules | `(tactic| walk_at "s5") => `(tactic| ((with_reducible show wpAny _ _ (callWith _ (Value.ref _) _ (backTo _ (starEach [PySem.Expr.Lambda _ _ _ _] _)) []) _ _ _); k_here; with_reducible (refine' callWith_lam ?k1 ?k2 ?_); (case k1 => k_asm); (case k2 => k_is); k_whole))
local macro_rules | `(tactic| walk_at "s6") => `(tactic| (refine' code_defCR ?k1 ?k2 ?k3 ?k4 ?k5 ?kA ?kF ?kK ?k6 ?k7 ?k8 ?k9 ?kB ?kD ?_ ?c2 ?c3 ?c4; (case kA | kF => exact rfl); (case kK => assumption); (case k1 | k2 | k3 | k4 | k5 => k_asm); (case k6 | k7 => k_is); (case k8 => walk_at "rm"); (case k9 => exact BindsTo.of_eq rfl); (case kB => exact rfl); (case kD => decide +kernel); (case c2 | c3 | c4 => exact rfl); k_whole; intro g' L' h' tk' cells' FG' F' N' Y' B' X' T' l1; k_cells Y'; (try simp only [List.cons_append, List.nil_append] at N'); (try dsimp only); (try k_lift B'); (try k_fold)))
section
open PySem PySem.W PyProof.Rows PySem.Calls
set_option maxRecDepth 100000
theorem filled17 : Mine.hd.heap_39 = Mine.hd.heap_39 ∧ PySem.Challenge.rw_ok0124_01 = PySem.Challenge.rw_ok0124_01 := by
  k_fill; exact ⟨rfl, rfl⟩
local macro_rules | `(tactic| walk_at "no loop") => `(tactic| ((walk_at "n0"); (walk_at "n1"); (walk_at "n2"); (walk_at "n5"); (walk_at "n6"); (walk_at "n7"); (walk_at "n3")))
local macro_rules | `(tactic| walk_at "callWith ref") => `(tactic| walk_at "s4")
local macro_rules | `(tactic| walk_at "callWith ref") => `(tactic| walk_at "s5")
local macro_rules | `(tactic| walk_at "enterCR") => `(tactic| walk_at "s6")
local macro_rules | `(tactic| walk_at "call ref") => `(tactic| walk_at "s2")
local macro_rules | `(tactic| walk_at "call ref") => `(tactic| (k_here; (with_reducible show wpAny _ _ (PySem.call (Value.ref 140) _) _ _ _); k_dflt (refine' begin_spec ?B ?F ?X ?N ?T ?K ?hi ?hi2 ?hos ?hd ?hu ?_; (case B | F | X | N | T => k_asm); (case K => first | exact rfl | assumption); (case hi | hi2 | hos => omega); (case hd => walk_at "rm"); (case hu => walk_at "un"); k_whole); intro t' h' tk' F' N'; (try k_sweep); (try k_fold)))
local macro_rules | `(tactic| walk_at "call ref") => `(tactic| (k_here; (with_reducible show wpAny _ _ (PySem.call (Value.ref 147) _) _ _ _); k_dflt (refine' end_spec ?B ?F ?X ?N ?T ?K ?hi ?hi2 ?hos ?hd ?hu ?_; (case B | F | X | N | T => k_asm); (case K => first | exact rfl | assumption); (case hi | hi2 | hos => omega); (case hd => walk_at "rm"); (case hu => walk_at "un"); k_whole); intro t' h' tk' F' N'; (try k_sweep); (try k_fold)))
def goodW (o : List UInt8) : Prop := o ≠ [] ∧ o.length ≤ 9 ∧ o.all isDig = true
theorem notGood {o : List UInt8} (h : o = [] ∨ 9 < o.length ∨ o.all isDig = false) : ¬ goodW o := fun g => by
  rcases h with h | h | h
  · exact g.1 h
  · exact absurd h (Nat.not_lt.mpr g.2.1)
  · rw [g.2.2] at h; cases h
def IsDue (o : List UInt8) (v : Value) : Prop := (goodW o ∧ ∃ t, v = .int (valL o) t) ∨ (¬ goodW o ∧ ∃ t, v = .str ("range" : Str) t)
theorem value_spec2 {prog : Program} {w : World} {p : Program} {loose : List Str} {mean : ExcName → Option Value} {mg mb : Str → Option Value} {dp un : Nat} {gd : Option (List Code)} {cn : Str} {cs : Scope} {fa : Addr} {ccd : Value} {cl : List (Str × Addr)} {outer : List Env} {A₀ : Around} {base h₀ : Heap} {L : Addr} {m : Str → Option Value} {s : Shared} {Q E : Value → Shared → Prop}
    {news : List (Addr × Obj)} {o : List UInt8} {to : Tok}
    (B : Below A₀ base outer h₀) (F : Fr h₀ L s.heap m) (X : (Mine.hd.heap_39 w.params).In h₀) (N : News h₀ L s.heap news) (T : Top p loose mean mg mb h₀) (hk : cs.kind = .function)
    (hos : o.length < 100000) (hd : dp + 6 < recursionLimit) (hu : un + 80 < cLine)
    (ret : ∀ v h' tk', IsDue o v → Fr h₀ L h' m → News h₀ L h' news → Q v { s with heap := h', toks := tk' }) :
    wpAny (model prog w) (ktrTop dp un gd cn cs L fa ccd cl outer) (call (.ref 159) [.bytes o.toArray to]) Q E s :=
  value_spec B F X N T hk hos hd hu (fun h1 h2 h3 t h' tk' F' N' => ret _ _ _ (.inl ⟨⟨h1, h2, h3⟩, t, rfl⟩) F' N')
    (fun h1 t h' tk' F' N' => ret _ _ _ (.inr ⟨notGood h1, t, rfl⟩) F' N')
local macro_rules | `(tactic| walk_at "call ref") => `(tactic| (k_here; (with_reducible show wpAny _ _ (PySem.call (Value.ref 159) _) _ _ _); k_dflt (refine' value_spec2 ?B ?F ?X ?N ?T ?K ?hos ?hd ?hu ?_; (case B | F | X | N | T => k_asm); (case K => first | exact rfl | assumption); (case hos => first | omega | (unfold wdF; simp only [List.length_take, List.length_drop]; omega)); (case hd => walk_at "rm"); (case hu => walk_at "un"); k_whole); intro v' h' tk' D' F' N'; (try k_sweep); (try k_fold)))
theorem hU3 {x : Nat} {o2 o3 : Obj} {y : Addr × Obj} {r : List (Addr × Obj)} (h : ∀ p ∈ y :: r, p.1 < x) : ∀ p ∈ (x + 1 + 1, o2) :: (x + 1, o3) :: y :: r, p.1 ≠ x + 1 + 1 + 1 := by
  intro p hp
  rcases List.mem_cons.mp hp with rfl | hp
  · exact Nat.ne_of_lt (Nat.lt_succ_self _)
  · rcases List.mem_cons.mp hp with rfl | hp
    · exact Nat.ne_of_lt (Nat.lt_trans (Nat.lt_succ_self _) (Nat.lt_succ_self _))
    · exact Nat.ne_of_lt (Nat.lt_trans (Nat.lt_trans (Nat.lt_trans (h p hp) (Nat.lt_succ_self _)) (Nat.lt_succ_self _)) (Nat.lt_succ_self _))
theorem hap3 {x : Nat} {o1 o2 o3 : Obj} {r : List (Addr × Obj)} (h : 161 < x) (hr : ∀ q ∈ r, q.1 ≠ 161) : ∀ q ∈ [(x + 1 + 1 + 1, o1), (x + 1 + 1, o2), (x + 1, o3)] ++ r, q.1 ≠ 161 := by
  intro q hq
  rcases List.mem_cons.mp hq with rfl | hq
  · exact Nat.ne_of_gt (by dsimp only; lia)
  · rcases List.mem_cons.mp hq with rfl | hq
    · exact Nat.ne_of_gt (by dsimp only; lia)
    · rcases List.mem_cons.mp hq with rfl | hq
      · exact Nat.ne_of_gt (by dsimp only; lia)
      · exact hr q hq
theorem hap3N {x : Nat} {g h : Heap} {o1 o2 o3 ot : Obj} {r : List (Addr × Obj)} (_ : News g x h ((x + 1 + 1 + 1, o1) :: (x + 1 + 1, o2) :: (x + 1, o3) :: (161, ot) :: r)) (h : 161 < x) (hr : ∀ q ∈ r, q.1 ≠ 161) : ∀ q ∈ [(x + 1 + 1 + 1, o1), (x + 1 + 1, o2), (x + 1, o3)] ++ r, q.1 ≠ 161 := hap3 h hr
set_option maxHeartbeats 8000000 in
theorem place_spec {prog : Program} {w : World} {p : Program} {loose : List Str} {mean : ExcName → Option Value} {mg mb : Str → Option Value} {dp un : Nat} {gd : Option (List Code)} {cn : Str} {cs : Scope} {fa : Addr} {ccd : Value} {cl : List (Str × Addr)} {A₀ : Around} {base : Heap} {L : Addr} {m : Str → Option Value} {s : Shared} {Q E : Value → Shared → Prop}
    {cod rest : List (Addr × Obj)} {ps : Array Value} {o : List UInt8} {to ta : Tok} {i : Int}
    (B : Below A₀ base [] base) (F : Fr base L s.heap m) (X : (Mine.hd.heap_39 w.params).In base) (N : News base L s.heap ((161, tabObj ps) :: (cod ++ rest))) (T : Top p loose mean mg mb base) (hk : cs.kind = .function)
    (C : CodeHd base 165 161) (I : LamTab "_law_place_right.<locals>.<lambda>" ps cod) (hap : ∀ q ∈ cod ++ rest, q.1 ≠ 161) (hap2 : ∀ q ∈ cod, ∀ r ∈ rest, q.1 ≠ r.1)
    (hi : 0 ≤ i) (hi2 : i ≤ o.length) (hos : o.length < 1000) (hd : dp + 20 < recursionLimit) (hu : un + 300 < cLine)
    (ret : ∀ h' tk' ps' cod', LamTab "_law_place_right.<locals>.<lambda>" ps' cod' → Fr base L h' m → News base L h' ((161, tabObj ps') :: (cod' ++ rest)) → (∀ q ∈ cod' ++ rest, q.1 ≠ 161) → (∀ q ∈ cod', ∀ r ∈ rest, q.1 ≠ r.1) → Q (.bool true) { s with heap := h', toks := tk' }) :
    wpAny (model prog w) (ktrTop dp un gd cn cs L fa ccd cl []) (call (.ref 166) [.bytes o.toArray to, .int i ta]) Q E s := by
  refine wpAny_call ?_
  k_dflt (walk_at "enterCR")
  refine noE ?_
  clear F N
  rename Fr _ _ _ (bindL _ _ _) => F1
  replace F1 : Fr _ _ _ (fun _ => none) := F1
  rename (Obj.data _ = _) => d3
  revert d3
  rename (Obj.data _ = _) => d2
  revert d2
  rename (Obj.data _ = _) => d1
  revert d1
  intro d1 d2 d3
  replace d1 : _ = Data.cell none := d1
  replace d2 : _ = Data.cell (some (.int i ta)) := d2
  replace d3 : _ = Data.cell (some (.bytes o.toArray to)) := d3
  rename (∀ p ∈ _, Prod.fst p < _) => l1
  have hbl : skF o i.toNat ≤ o.length := skF_le (by lia)
  have hel : enF o (skF o i.toNat) ≤ o.length := enF_le hbl
  generalize hb : skF o i.toNat = b at *
  generalize he : enF o b = e at *
  have h161 := l1 _ (.head _)
  dsimp only at h161
  walk_at "st"
  rename Fr _ _ _ (fun y => ite _ _ _) => F1
  rename News _ _ _ _ => N1
  simp only [hb, Int.toNat_natCast, he] at F1
  refine slice_L (x := o) (y := wdF o b e) F1 N1 (.int _ _) (.int _ _) (by lia) (by simp only [Option.elim_some, hb, Int.toNat_natCast, he, clipAt_nat]; rw [Nat.min_eq_left hbl, Nat.min_eq_left hel]; rfl) ?_
  clear F1 N1
  intro h2 t2 k2 F1 N1
  walk_at "st"
  k_dflt (refine storeX_C F1 N1 rfl (.head (hU3 l1)) d1 ?_)
  clear F1 N1 d1
  intro h3 o1 F1 N1 d1
  replace N1 : News _ _ _ ((_, o1) :: (_, _) :: (_, _) :: (161, tabObj ps) :: (cod ++ rest)) := N1
  walk_at "st"
  · exact absurd (congrArg Int.ofNat hb) ‹((skF o i.toNat : Nat) : Int) ≠ _›
  · have hbe : b = e := by rw [← he, en_end (by rename ((b : Int) = _) => hq; simp at hq; lia)]
    rename Fr base L _ m => FG
    rename Below _ _ _ _ => B2
    rename Frag.In _ _ => X2
    rename Top _ _ _ _ _ _ => T2
    rename Fr _ _ _ (fun y => ite _ _ _) => F1
    rename News _ _ _ _ => N1
    rename IsDue _ _ => D2
    have I0 := I
    have hap0 := hap3N N1 h161 hap
    have hap20 := hap2
    refine lam_make (fr := [(_, o1), (_, _), (_, _)]) F1 N1 T2 (C.keeps FG.keep) rfl I0 hap0 hap20 rfl rfl rfl ?_
    clear F1 N1
    intro f c' oc vs t0 ctv h4 tk4 ps1 cod1 I1 hcm hcd hcv F1 N1 hap1 hap21 hlt
    clear I0 hap0 hap20
    rename LamTab _ _ _ => I0
    rename (∀ q ∈ _ ++ (cod1 ++ rest), Prod.fst q ≠ 161) => hap0
    rename (∀ q ∈ cod1, ∀ r ∈ rest, _) => hap20
    walk_at "st"
    refine told_lam (fun v news' => b ≠ e ∧ _) (b = e) (False) B2 F1 X2 N1 T2 rfl (.head _) (.tail _ (List.mem_append_right _ (.tail _ (List.mem_append_left _ hcm)))) hcd hcv rfl rfl rfl (by decide) ?_ ?_ X T (fun g L₁ L'' h₁ tk B3 F3 N3 X3 T3 => body_word B3 F3 X3 N3 T3 (.tail _ (.tail _ (.tail _ (.head _)))) d3 (.tail _ (.tail _ (.head _))) d2 hi hi2 (by lia) hb.symm he.symm ?_ ?_) ?_ ?_
    · walk_at "rm"
    · walk_at "un"
    · walk_at "rm"
    · walk_at "un"
    · rintro v h' tk' news' ⟨hne, _⟩ _ _
      exact absurd hbe hne
    clear F1 N1 B2 X2 T2 hlt hcm hcd hcv
    intro h₀1 h5 tk5 t5 r1 hr st1 B2 F1 N1 hfr1
    obtain ⟨_, rfl⟩ | ⟨hf, _⟩ := hr
    rotate_left
    · exact hf.elim
    replace FG := hfr1 _ _ ⟨_, .head _, rfl⟩ FG
    have X2 := X.keeps st1
    have T2 := T.keeps st1
    clear hfr1 st1
    replace N1 := news_drop N1
    walk_at "st"
    refine lam_make (fr := [(_, o1), (_, _), (_, _)]) F1 N1 T2 (C.keeps FG.keep) rfl I0 hap0 hap20 rfl rfl rfl ?_
    clear F1 N1
    intro f c' oc vs t0 ctv h4 tk4 ps1 cod1 I1 hcm hcd hcv F1 N1 hap1 hap21 hlt
    clear I0 hap0 hap20
    rename LamTab _ _ _ => I0
    rename (∀ q ∈ _ ++ (cod1 ++ rest), Prod.fst q ≠ 161) => hap0
    rename (∀ q ∈ cod1, ∀ r ∈ rest, _) => hap20
    walk_at "st"
    refine told_lam (fun v news' => b ≠ e ∧ _ ∧ _ ∧ _) (b = e) (b ≠ e ∧ _) B2 F1 X2 N1 T2 rfl (.head _) (.tail _ (List.mem_append_right _ (.tail _ (List.mem_append_left _ hcm)))) hcd hcv rfl rfl rfl (by decide) ?_ ?_ X T (fun g L₁ L'' h₁ tk B3 F3 N3 X3 T3 => body_num B3 F3 X3 N3 T3 (.tail _ (.tail _ (.tail _ (.head _)))) d3 (.tail _ (.tail _ (.head _))) d2 hi hi2 (by lia) hb.symm he.symm ?_ ?_) ?_ ?_
    · walk_at "rm"
    · walk_at "un"
    · walk_at "rm"
    · walk_at "un"
    · rintro v h' tk' news' ⟨hne, _⟩ _ _
      exact absurd hbe hne
    clear F1 N1 B2 X2 T2 hlt hcm hcd hcv
    intro h₀1 h5 tk5 t5 r1 hr st1 B2 F1 N1 hfr1
    obtain ⟨_, rfl⟩ | ⟨hf, _⟩ := hr
    rotate_left
    · exact absurd hbe hf.1
    replace FG := hfr1 _ _ ⟨_, .head _, rfl⟩ FG
    have X2 := X.keeps st1
    have T2 := T.keeps st1
    clear hfr1 st1
    replace N1 := news_drop N1
    walk_at "st"
    have hfin := frBack FG F1 N1
    rw [beq_self_eq_true]
    exact ret _ _ _ _ I0 hfin.1 (fun q hq => hfin.2 q (.tail _ (.tail _ (.tail _ hq)))) (fun q hq => hap0 q (List.mem_append_right _ hq)) hap20
  · rename IsDue _ _ => D2
    have D3 := D2
    rcases D3 with ⟨hg, td, rfl⟩ | ⟨hg, td, rfl⟩
    · have hlt0 : b < o.length := by rename ((b : Int) ≠ _) => hq; simp at hq; lia
      have hbe : b < e := by
        have h9 := en_gt (o := o) (i := i.toNat) (by rw [hb]; exact hlt0)
        rw [hb, he] at h9
        exact h9
      have hw : wdF o b e ≠ [] := fun h9 => by
        have h8 := congrArg List.length h9
        unfold wdF at h8
        simp only [List.length_take, List.length_drop, List.length_nil] at h8
        lia
      rename Fr base L _ m => FG
      rename Below _ _ _ _ => B2
      rename Frag.In _ _ => X2
      rename Top _ _ _ _ _ _ => T2
      rename Fr _ _ _ (fun y => ite _ _ _) => F1
      rename News _ _ _ _ => N1
      rename IsDue _ _ => D2
      have I0 := I
      have hap0 := hap3N N1 h161 hap
      have hap20 := hap2
      refine lam_make (fr := [(_, o1), (_, _), (_, _)]) F1 N1 T2 (C.keeps FG.keep) rfl I0 hap0 hap20 rfl rfl rfl ?_
      clear F1 N1
      intro f c' oc vs t0 ctv h4 tk4 ps1 cod1 I1 hcm hcd hcv F1 N1 hap1 hap21 hlt
      clear I0 hap0 hap20
      rename LamTab _ _ _ => I0
      rename (∀ q ∈ _ ++ (cod1 ++ rest), Prod.fst q ≠ 161) => hap0
      rename (∀ q ∈ cod1, ∀ r ∈ rest, _) => hap20
      walk_at "st"
      refine told_lam (fun v news' => b ≠ e ∧ _) (b = e) (False) B2 F1 X2 N1 T2 rfl (.head _) (.tail _ (List.mem_append_right _ (.tail _ (List.mem_append_left _ hcm)))) hcd hcv rfl rfl rfl (by decide) ?_ ?_ X T (fun g L₁ L'' h₁ tk B3 F3 N3 X3 T3 => body_word B3 F3 X3 N3 T3 (.tail _ (.tail _ (.tail _ (.head _)))) d3 (.tail _ (.tail _ (.head _))) d2 hi hi2 (by lia) hb.symm he.symm ?_ ?_) ?_ ?_
      · walk_at "rm"
      · walk_at "un"
      · walk_at "rm"
      · walk_at "un"
      · rintro v h5 tk5 news' ⟨hne, t, tb, te, rfl, rfl, hlt2⟩ F1 N1
        walk_at "st"
        rename News _ _ _ _ => N1
        rename Fr _ _ _ (fun y => ite _ _ _) => F1
        refine ne_tup2 N1 (.tail _ (.head _)) (.head _) eqAt_bytes eqAt_int ?_ ?_
        · walk_at "un"
        replace N1 : News _ _ _ ([(_, o1), (_, _), (_, _)] ++ (161, tabObj ps1) :: (cod1 ++ rest)) := fun q hq => N1 q (.tail _ (.tail _ (.tail _ hq)))
        walk_at "st"
        refine lam_make (fr := [(_, o1), (_, _), (_, _)]) F1 N1 T2 (C.keeps FG.keep) rfl I0 hap0 hap20 rfl rfl rfl ?_
        clear F1 N1
        intro f c' oc vs t0 ctv h4 tk4 ps1 cod1 I1 hcm hcd hcv F1 N1 hap1 hap21 hlt
        clear I0 hap0 hap20
        rename LamTab _ _ _ => I0
        rename (∀ q ∈ _ ++ (cod1 ++ rest), Prod.fst q ≠ 161) => hap0
        rename (∀ q ∈ cod1, ∀ r ∈ rest, _) => hap20
        walk_at "st"
        refine told_lam (fun v news' => _) (False) (_) B2 F1 X2 N1 T2 rfl (.head _) (.tail _ (List.mem_append_right _ (.tail _ (List.mem_append_left _ hcm)))) hcd hcv rfl rfl rfl (by decide) ?_ ?_ X T (fun g L₁ L'' h₁ tk B3 F3 N3 X3 T3 => body_letters B3 F3 X3 N3 T3 (.tail _ (.head _)) d1 (by unfold wdF; simp only [List.length_take, List.length_drop]; lia) ?_ ?_) ?_ ?_
        · walk_at "rm"
        · walk_at "un"
        · walk_at "rm"
        · walk_at "un"
        · rintro v h5 tk5 news' ⟨hl9, hall, t6, rfl, rfl⟩ F1 N1
          replace N1 := news_drop N1
          walk_at "st"
          · exact absurd rfl ‹valL _ ≠ valL _›
          refine lam_make (fr := [(_, o1), (_, _), (_, _)]) F1 N1 T2 (C.keeps FG.keep) rfl I0 hap0 hap20 rfl rfl rfl ?_
          clear F1 N1
          intro f c' oc vs t0 ctv h4 tk4 ps1 cod1 I1 hcm hcd hcv F1 N1 hap1 hap21 hlt
          clear I0 hap0 hap20
          rename LamTab _ _ _ => I0
          rename (∀ q ∈ _ ++ (cod1 ++ rest), Prod.fst q ≠ 161) => hap0
          rename (∀ q ∈ cod1, ∀ r ∈ rest, _) => hap20
          walk_at "st"
          refine told_lam (fun v news' => b ≠ e ∧ _ ∧ _ ∧ _) (b = e) (b ≠ e ∧ _) B2 F1 X2 N1 T2 rfl (.head _) (.tail _ (List.mem_append_right _ (.tail _ (List.mem_append_left _ hcm)))) hcd hcv rfl rfl rfl (by decide) ?_ ?_ X T (fun g L₁ L'' h₁ tk B3 F3 N3 X3 T3 => body_num B3 F3 X3 N3 T3 (.tail _ (.tail _ (.tail _ (.head _)))) d3 (.tail _ (.tail _ (.head _))) d2 hi hi2 (by lia) hb.symm he.symm ?_ ?_) ?_ ?_
          · walk_at "rm"
          · walk_at "un"
          · walk_at "rm"
          · walk_at "un"
          · rintro v h5 tk5 news' ⟨hne, h1, h2, t, tb, te, rfl, rfl, hlt2⟩ F1 N1
            walk_at "st"
            rename News _ _ _ _ => N1
            rename Fr _ _ _ (fun y => ite _ _ _) => F1
            refine eq_tup2 N1 (.tail _ (.head _)) (.head _) eqAt_int eqAt_int ?_ ?_
            · walk_at "un"
            walk_at "st"
            have hfin := frBack FG F1 N1
            exact ret _ _ _ _ I0 hfin.1 (fun q hq => hfin.2 q (.tail _ (.tail _ (.tail _ (.tail _ (.tail _ (.tail _ hq))))))) (fun q hq => hap0 q (List.mem_append_right _ hq)) hap20
          · intro h₀1 h5 tk5 t5 r1 hr st1 B2 F1 N1 hfr1
            exfalso
            rcases hr with ⟨h9, _⟩ | ⟨h9, _⟩
            · lia
            · rcases h9.2 with h8 | h8
              · exact absurd h8 (Nat.not_lt.mpr hg.2.1)
              · rw [hg.2.2] at h8; cases h8
        · intro h₀1 h5 tk5 t5 r1 hr st1 B2 F1 N1 hfr1
          exfalso
          rcases hr with ⟨h9, _⟩ | ⟨h9, _⟩
          · exact h9
          · rcases h9 with h8 | h8
            · exact absurd h8 (Nat.not_lt.mpr hg.2.1)
            · rw [hg.2.2] at h8; cases h8
      · intro h₀1 h5 tk5 t5 r1 hr st1 B2 F1 N1 hfr1
        exfalso
        rcases hr with ⟨h9, _⟩ | ⟨h9, _⟩
        · lia
        · exact h9
    · have hlt0 : b < o.length := by rename ((b : Int) ≠ _) => hq; simp at hq; lia
      have hbe : b < e := by
        have h9 := en_gt (o := o) (i := i.toNat) (by rw [hb]; exact hlt0)
        rw [hb, he] at h9
        exact h9
      have hw : wdF o b e ≠ [] := fun h9 => by
        have h8 := congrArg List.length h9
        unfold wdF at h8
        simp only [List.length_take, List.length_drop, List.length_nil] at h8
        lia
      rename Fr base L _ m => FG
      rename Below _ _ _ _ => B2
      rename Frag.In _ _ => X2
      rename Top _ _ _ _ _ _ => T2
      rename Fr _ _ _ (fun y => ite _ _ _) => F1
      rename News _ _ _ _ => N1
      rename IsDue _ _ => D2
      have I0 := I
      have hap0 := hap3N N1 h161 hap
      have hap20 := hap2
      refine lam_make (fr := [(_, o1), (_, _), (_, _)]) F1 N1 T2 (C.keeps FG.keep) rfl I0 hap0 hap20 rfl rfl rfl ?_
      clear F1 N1
      intro f c' oc vs t0 ctv h4 tk4 ps1 cod1 I1 hcm hcd hcv F1 N1 hap1 hap21 hlt
      clear I0 hap0 hap20
      rename LamTab _ _ _ => I0
      rename (∀ q ∈ _ ++ (cod1 ++ rest), Prod.fst q ≠ 161) => hap0
      rename (∀ q ∈ cod1, ∀ r ∈ rest, _) => hap20
      walk_at "st"
      refine told_lam (fun v news' => b ≠ e ∧ _) (b = e) (False) B2 F1 X2 N1 T2 rfl (.head _) (.tail _ (List.mem_append_right _ (.tail _ (List.mem_append_left _ hcm)))) hcd hcv rfl rfl rfl (by decide) ?_ ?_ X T (fun g L₁ L'' h₁ tk B3 F3 N3 X3 T3 => body_word B3 F3 X3 N3 T3 (.tail _ (.tail _ (.tail _ (.head _)))) d3 (.tail _ (.tail _ (.head _))) d2 hi hi2 (by lia) hb.symm he.symm ?_ ?_) ?_ ?_
      · walk_at "rm"
      · walk_at "un"
      · walk_at "rm"
      · walk_at "un"
      · rintro v h5 tk5 news' ⟨hne, t, tb, te, rfl, rfl, hlt2⟩ F1 N1
        walk_at "st"
        rename News _ _ _ _ => N1
        rename Fr _ _ _ (fun y => ite _ _ _) => F1
        refine ne_tup2 N1 (.tail _ (.head _)) (.head _) eqAt_bytes eqAt_int ?_ ?_
        · walk_at "un"
        replace N1 : News _ _ _ ([(_, o1), (_, _), (_, _)] ++ (161, tabObj ps1) :: (cod1 ++ rest)) := fun q hq => N1 q (.tail _ (.tail _ (.tail _ hq)))
        walk_at "st"
        refine lam_make (fr := [(_, o1), (_, _), (_, _)]) F1 N1 T2 (C.keeps FG.keep) rfl I0 hap0 hap20 rfl rfl rfl ?_
        clear F1 N1
        intro f c' oc vs t0 ctv h4 tk4 ps1 cod1 I1 hcm hcd hcv F1 N1 hap1 hap21 hlt
        clear I0 hap0 hap20
        rename LamTab _ _ _ => I0
        rename (∀ q ∈ _ ++ (cod1 ++ rest), Prod.fst q ≠ 161) => hap0
        rename (∀ q ∈ cod1, ∀ r ∈ rest, _) => hap20
        walk_at "st"
        refine told_lam (fun v news' => _) (False) (_) B2 F1 X2 N1 T2 rfl (.head _) (.tail _ (List.mem_append_right _ (.tail _ (List.mem_append_left _ hcm)))) hcd hcv rfl rfl rfl (by decide) ?_ ?_ X T (fun g L₁ L'' h₁ tk B3 F3 N3 X3 T3 => body_letters B3 F3 X3 N3 T3 (.tail _ (.head _)) d1 (by unfold wdF; simp only [List.length_take, List.length_drop]; lia) ?_ ?_) ?_ ?_
        · walk_at "rm"
        · walk_at "un"
        · walk_at "rm"
        · walk_at "un"
        · rintro v h5 tk5 news' ⟨hl9, hall, t6, rfl, rfl⟩ F1 N1
          exact absurd ⟨hw, hl9, hall⟩ hg
        clear F1 N1 B2 X2 T2 hlt hcm hcd hcv
        intro h₀1 h5 tk5 t5 r1 hr st1 B2 F1 N1 hfr1
        obtain ⟨hf, _⟩ | ⟨_, rfl⟩ := hr
        · exact hf.elim
        replace FG := hfr1 _ _ ⟨_, .head _, rfl⟩ FG
        have X2 := X.keeps st1
        have T2 := T.keeps st1
        clear hfr1 st1
        replace N1 := news_drop N1
        walk_at "st"
        refine lam_make (fr := [(_, o1), (_, _), (_, _)]) F1 N1 T2 (C.keeps FG.keep) rfl I0 hap0 hap20 rfl rfl rfl ?_
        clear F1 N1
        intro f c' oc vs t0 ctv h4 tk4 ps1 cod1 I1 hcm hcd hcv F1 N1 hap1 hap21 hlt
        clear I0 hap0 hap20
        rename LamTab _ _ _ => I0
        rename (∀ q ∈ _ ++ (cod1 ++ rest), Prod.fst q ≠ 161) => hap0
        rename (∀ q ∈ cod1, ∀ r ∈ rest, _) => hap20
        walk_at "st"
        refine told_lam (fun v news' => b ≠ e ∧ _ ∧ _ ∧ _) (b = e) (b ≠ e ∧ _) B2 F1 X2 N1 T2 rfl (.head _) (.tail _ (List.mem_append_right _ (.tail _ (List.mem_append_left _ hcm)))) hcd hcv rfl rfl rfl (by decide) ?_ ?_ X T (fun g L₁ L'' h₁ tk B3 F3 N3 X3 T3 => body_num B3 F3 X3 N3 T3 (.tail _ (.tail _ (.tail _ (.head _)))) d3 (.tail _ (.tail _ (.head _))) d2 hi hi2 (by lia) hb.symm he.symm ?_ ?_) ?_ ?_
        · walk_at "rm"
        · walk_at "un"
        · walk_at "rm"
        · walk_at "un"
        · rintro v h5 tk5 news' ⟨hne, hl9, hall, _⟩ F1 N1
          exact absurd ⟨hw, hl9, hall⟩ hg
        clear F1 N1 B2 X2 T2 hlt hcm hcd hcv
        intro h₀1 h5 tk5 t5 r1 hr st1 B2 F1 N1 hfr1
        obtain ⟨hf, _⟩ | ⟨_, rfl⟩ := hr
        · lia
        replace FG := hfr1 _ _ ⟨_, .head _, rfl⟩ FG
        have X2 := X.keeps st1
        have T2 := T.keeps st1
        clear hfr1 st1
        replace N1 := news_drop N1
        walk_at "st"
        have hfin := frBack FG F1 N1
        rw [beq_self_eq_true]
        exact ret _ _ _ _ I0 hfin.1 (fun q hq => hfin.2 q (.tail _ (.tail _ (.tail _ hq)))) (fun q hq => hap0 q (List.mem_append_right _ hq)) hap20
      · intro h₀1 h5 tk5 t5 r1 hr st1 B2 F1 N1 hfr1
        exfalso
        rcases hr with ⟨h9, _⟩ | ⟨h9, _⟩
        · lia
        · exact h9
end
section
open PySem PySem.W PyProof.Rows PySem.Calls
set_option maxRecDepth 100000
theorem filled18 : Mine.hd.heap_39 = Mine.hd.heap_39 ∧ PySem.Challenge.rw_ok0124_01 = PySem.Challenge.rw_ok0124_01 := by
  k_fill; exact ⟨rfl, rfl⟩
local macro_rules | `(tactic| walk_at "no loop") => `(tactic| ((walk_at "n0"); (walk_at "n1"); (walk_at "n2"); (walk_at "n3")))
theorem bit_nn (b : Bool) : 0 ≤ (if b = true then (1 : Int) else 0) := by cases b <;> decide
set_option maxHeartbeats 8000000 in
theorem pool_spec {prog : Program} {w : World} {p : Program} {loose : List Str} {mean : ExcName → Option Value} {mg mb : Str → Option Value} {dp un : Nat} {gd : Option (List Code)} {cn : Str} {cs : Scope} {fa : Addr} {ccd : Value} {cl : List (Str × Addr)} {outer : List Env} {A₀ : Around} {base h₀ : Heap} {L : Addr} {m : Str → Option Value} {s : Shared} {Q E : Value → Shared → Prop}
    {news : List (Addr × Obj)} {script : Addr} {vs : List Value} {ns : List Int} {tk0 : Tok}
    (B : Below A₀ base outer h₀) (F : Fr h₀ L s.heap m) (X : (Mine.hd.heap_39 w.params).In h₀) (N : News h₀ L s.heap news) (T : Top p loose mean mg mb h₀) (hk : cs.kind = .function)
    (hl : h₀.IsList script vs.toArray) (hI : IntsAre vs ns) (hlen : ns.length ≤ 63)
    (hd : dp + 3 < recursionLimit) (hu : un + 24 < cLine)
    (ret : ∀ D a b ta tb n h' tk', 0 ≤ a → 0 ≤ b → b < 2147483647 → Fr h₀ L h' m → News h₀ L h' ((D, srcO a b ta tb n) :: news) → (∀ p ∈ news, p.1 < D) → Q (.ref D) { s with heap := h', toks := tk' }) :
    wpAny (model prog w) (ktrTop dp un gd cn cs L fa ccd cl outer) (call (.ref 113) [.ref script, .int 0 tk0]) Q E s := by
  refine wpAny_call ?_
  k_dflt cell_enter
  refine noE ?_
  clear N F
  rename Fr _ _ _ _ => F1
  replace F1 := lk2 F1
  rename Fr h₀ L _ m => FG
  have hl2 := hl.at fun o e => FG.keep _ _ e
  have hlv : vs.length ≤ 63 := by rw [hI.length]; exact hlen
  walk_at "st"
  all_goals (
    rename News h₀ L _ _ => N2
    rename Fr h₀ L _ m => F2
    rename (∀ p ∈ news, Prod.fst p < _) => l2
    refine ret _ _ _ _ _ _ _ _ (Int.mul_nonneg (by split <;> omega) (bit_nn _)) ?_ ?_ F2 N2 l2
    · exact Int.fmod_nonneg_of_pos _ (by decide)
    · exact Int.fmod_lt_of_pos _ (by decide))
end
local macro_rules | `(tactic| walk_at "n8") => `(tactic| (fail_if_success (with_reducible show LCg.CompSrc _ _ _ _ _ _ _ _ _ _ _ _ _ _)))
local macro_rules | `(tactic| walk_at "n9") => `(tactic| (fail_if_success (with_reducible show wpAny _ _ (PySem.call (Value.ref 120) _) _ _ _)))
local macro_rules | `(tactic| walk_at "n10") => `(tactic| (fail_if_success (with_reducible show wpAny _ _ (PySem.call (Value.ref 127) _) _ _ _)))
local macro_rules | `(tactic| walk_at "n11") => `(tactic| (fail_if_success (with_reducible show wpAny _ _ (binaryOp _ (Value.ref _) (Value.ref _)) _ _ _)))
section
open PySem PySem.W PyProof.Rows PySem.Calls
set_option maxRecDepth 100000
theorem filled19 : Mine.hd.heap_39 = Mine.hd.heap_39 ∧ PySem.Challenge.rw_ok0124_01 = PySem.Challenge.rw_ok0124_01 := by
  k_fill; exact ⟨rfl, rfl⟩
local macro_rules | `(tactic| walk_at "no loop") => `(tactic| ((walk_at "n8"); (walk_at "n0"); (walk_at "n1"); (walk_at "n2"); (walk_at "n9"); (walk_at "n10"); (walk_at "n11"); (fail_if_success (with_reducible show wpAny _ _ (storeName _ _ _) _ _ _)); (walk_at "n3")))
local macro_rules | `(tactic| walk_at "enterCR") => `(tactic| walk_at "s6")
theorem rest_gen {prog : Program} {w : World} {A : Around} {h₀ : Heap} {L : Addr} {m : Str → Option Value} {env : Env} {elt : PySem.Expr} {x : Str} {scope : Scope} {cl : List (Str × Addr)} {s : Shared} {S : List (Addr × Obj) → Prop} {P : Nat → Value → Prop} {Fin : List Value → List (Addr × Obj) → Prop} {k i0 : Nat} {ys : List Value} {news : List (Addr × Obj)}
    (hi : i0 = 0) (hy : ys = []) (h : LCg.CompRest prog w A h₀ L m env elt x scope cl s S P Fin k i0 ys news) : LCg.CompRest prog w A h₀ L m env elt x scope cl s S P Fin k 0 [] news := by
  subst hi; subst hy; exact h
def byteV (v : Value) : Bool := match v with | .int k _ => decide (0 ≤ k) && decide (k < 256) | _ => false
theorem bytes_ints : ∀ {ys : List Value}, ys.all byteV = true → ∃ ns, IntsAre ys ns ∧ (∀ n ∈ ns, 0 ≤ n ∧ n < 256) ∧ ns.length = ys.length
  | [], _ => ⟨[], .nil, (fun _ h => nomatch h), rfl⟩
  | v :: r, h => by
    rw [List.all_cons, Bool.and_eq_true] at h
    obtain ⟨ns, h1, h2, h3⟩ := bytes_ints h.2
    have hv := h.1
    unfold byteV at hv
    split at hv
    · rename_i k t
      simp only [Bool.and_eq_true, decide_eq_true_eq] at hv
      exact ⟨k :: ns, .cons k t h1, fun n hn => (List.mem_cons.mp hn).elim (fun e => e ▸ hv) (h2 n), by simp [h3]⟩
    · cases hv
theorem oct_led {x th l' src : Addr} {g h : Heap} {ol lo o1 o2 so : Obj} {rest : List (Addr × Obj)} (N : News g x h ((th, ol) :: (l', lo) :: (x + 1 + 1, o1) :: (x + 1, o2) :: (src, so) :: rest))
    (hth : ∀ q ∈ (l', lo) :: (x + 1 + 1, o1) :: (x + 1, o2) :: (src, so) :: rest, q.1 < th) (l1 : ∀ p ∈ (src, so) :: rest, p.1 < x) :
    News g x h ((x + 1 + 1, o1) :: (th, ol) :: (x + 1, o2) :: (src, so) :: rest) ∧ (∀ p ∈ (th, ol) :: (x + 1, o2) :: (src, so) :: rest, p.1 ≠ x + 1 + 1) ∧ th ≠ src ∧ x + 1 + 1 ≠ src ∧ x + 1 ≠ src := by
  have h1 : x + 1 + 1 < th := hth _ (.tail _ (.head _))
  have h2 : src < x := l1 _ (.head _)
  have hxx : x < x + 1 := Nat.lt_succ_self _
  have hxy : x + 1 < x + 1 + 1 := Nat.lt_succ_self _
  refine ⟨fun p hp => ?_, fun p hp => ?_, Nat.ne_of_gt (Nat.lt_trans h2 (Nat.lt_trans hxx (Nat.lt_trans hxy h1))), Nat.ne_of_gt (Nat.lt_trans h2 (Nat.lt_trans hxx hxy)), Nat.ne_of_gt (Nat.lt_trans h2 hxx)⟩
  · rcases List.mem_cons.mp hp with rfl | hp
    · exact N _ (.tail _ (.tail _ (.head _)))
    · rcases List.mem_cons.mp hp with rfl | hp
      · exact N _ (.head _)
      · exact N _ (.tail _ (.tail _ (.tail _ hp)))
  · rcases List.mem_cons.mp hp with rfl | hp
    · exact Nat.ne_of_gt h1
    · rcases List.mem_cons.mp hp with rfl | hp
      · exact Nat.ne_of_lt hxy
      · exact Nat.ne_of_lt (Nat.lt_trans (l1 p hp) (Nat.lt_trans hxx hxy))
theorem isList_of {h : Heap} {l : Addr} {vs : List Value} {n : Nat} (e : h.get? l = some (lstO vs n)) : h.IsList l vs.toArray := ⟨_, e, rfl, n, rfl⟩
theorem le17 : 6 + 11 ≤ sizeLine := by rw [sizeLine_eq]; decide
set_option maxHeartbeats 8000000 in
theorem octets_spec {prog : Program} {w : World} {p : Program} {loose : List Str} {mean : ExcName → Option Value} {mg mb : Str → Option Value} {dp un : Nat} {gd : Option (List Code)} {cn : Str} {cs : Scope} {fa : Addr} {ccd : Value} {cl : List (Str × Addr)} {outer : List Env} {A₀ : Around} {base h₀ : Heap} {L : Addr} {m : Str → Option Value} {s : Shared} {Q E : Value → Shared → Prop}
    {rest : List (Addr × Obj)} {src : Addr} {a b : Int} {ta tb : Tok} {n : Nat}
    (B : Below A₀ base outer h₀) (F : Fr h₀ L s.heap m) (X : (Mine.hd.heap_39 w.params).In h₀) (N : News h₀ L s.heap ((src, srcO a b ta tb n) :: rest)) (T : Top p loose mean mg mb h₀) (hk : cs.kind = .function)
    (hap : ∀ q ∈ rest, q.1 ≠ src) (ha : 0 ≤ a) (hb : 0 ≤ b ∧ b < 2147483647) (hd : dp + 8 < recursionLimit) (hu : un + 80 < cLine)
    (ret : ∀ (o : List UInt8) t a' b' ta' tb' n' h' tk', o.length ≤ 30 → 0 ≤ a' → 0 ≤ b' → b' < 2147483647 → Fr h₀ L h' m → News h₀ L h' ((src, srcO a' b' ta' tb' n') :: rest) → Q (.bytes o.toArray t) { s with heap := h', toks := tk' }) :
    wpAny (model prog w) (ktrTop dp un gd cn cs L fa ccd cl outer) (call (.ref 133) [.ref src]) Q E s := by
  refine wpAny_call ?_
  k_dflt (walk_at "enterCR")
  refine noE ?_
  clear F N
  rename Fr _ _ _ (bindL _ _ _) => F1
  replace F1 : Fr _ _ _ (fun _ => none) := F1
  rename (Obj.data _ = _) => d2
  revert d2
  rename (Obj.data _ = _) => d1
  revert d1
  intro d1 d2
  replace d1 : _ = Data.cell none := d1
  replace d2 : _ = Data.cell (some (.ref src)) := d2
  rename (∀ p ∈ _, Prod.fst p < _) => l1
  walk_at "st"
  rename Frag.In _ _ => X2
  rename Below _ _ _ _ => B2
  rename Top _ _ _ _ _ _ => T2
  rename Fr h₀ L _ m => FG
  rename Fr _ _ _ (fun _ => none) => F2
  rename News _ _ _ _ => N2
  have h128 := (X2.keeps F2.keep) 128 _ (by k_is)
  have hl128 := isList_of (vs := [_, _, _, _, _, _]) h128
  refine add_lists F2 N2 hl128 (N2.isList (.head _)) ?_ le17
  have hth := fun q hq => Heap.lt_size (N2 q hq).1
  intro h3 F3 N3
  walk_at "st"
  refine pk ?_
  intro Pk ik
  obtain ⟨N4, hU, e1, e2, e3⟩ := oct_led N3 hth l1
  refine up ik ?_
  clear ik
  clear N3 N2 F2 h128 hl128
  k_dflt (refine storeX_C F3 N4 rfl (.head hU) d1 ?_)
  clear N4 F3 d1 hU
  intro h4 o1 F1 N1 d1
  replace N1 : News _ _ _ ((_, o1) :: (_, _) :: (_, _) :: (src, srcO a b ta tb n) :: rest) := N1
  walk_at "st"
  k_dflt (refine LCg.ListComp_U (F₀ := F1) rfl (by decide) rfl (by decide) rfl ?_)
  walk_at "st"
  refine take_spec B2 F1 X2 N1 T2 rfl (.tail e2 (.tail e1 (.tail e3 (.head hap)))) ha hb (by decide) (by decide) ?_ ?_ ?_
  · walk_at "rm"
  · walk_at "un"
  clear F1 N1
  intro d a1 b1 ta1 tb1 t1 n1 h5 tk5 hd0 hd1 ha1 hb1 hb2 F1 N1
  replace N1 : News _ _ _ ((_, o1) :: (_, _) :: (_, _) :: (src, srcO a1 b1 ta1 tb1 n1) :: rest) := N1
  walk_at "st"
  rename IsRange _ _ _ _ _ _ _ _ => r1
  rename Fr _ _ _ (fun _ => none) => F1
  rename News _ _ _ _ => N1
  obtain ⟨k0, hk0⟩ : ∃ k : Nat, d = (k : Int) := ⟨d.toNat, by lia⟩
  subst hk0
  refine LCg.CompSrc.range rfl F1 N1 r1 (rsm (by lia) (by lia) (by lia)) (rsz (by lia)) (by rw [sizeLine_eq]; lia) ?_
  intro gh
  have hk1 : k0 ≤ 30 := by lia
  refine withEq (0 : Nat) fun i0 hi0 => ?_
  refine withEq ([] : List Value) fun ys hy => ?_
  have hys : ys.length + k0 ≤ 30 := by rw [hy]; simpa using hk1
  have hin : ys.all byteV = true := by rw [hy]; rfl
  have hab : 0 ≤ a1 ∧ 0 ≤ b1 ∧ b1 < 2147483647 := ⟨ha1, hb1, hb2⟩
  refine rest_gen hi0 hy ?_
  clear F1 N1 r1 ha1 hb1 hb2 hd0 hd1 hk1 hi0 hy
  rename News _ _ _ _ => Nx
  clear Nx
  induction k0 generalizing ys i0 a1 b1 ta1 tb1 n1 with
  | zero =>
    refine LCg.CompRest.zero ?_
    unfold LCg.FinE
    intro D hh tkk F1 N1 off1
    walk_at "st"
    refine pk ?_
    intro Pk ik
    obtain ⟨ns, hns, hr, hlen⟩ := bytes_ints hin
    refine up ik ?_
    clear ik
    refine bytes_K F1 N1 (N1.isList (.head _)) hns hr (by rw [sizeLine_eq]; lia) rfl ?_
    intro h8 t8 k8 F2 N2 _
    walk_at "st"
    have hx9 := frBack FG F2 N2
    obtain ⟨F3, N3⟩ := hx9
    refine ret _ _ _ _ _ _ _ _ _ ?_ hab.1 hab.2.1 hab.2.2 F3 (fun q hq => N3 q (.tail _ (.tail _ (.tail _ (.tail _ hq)))))
    rw [List.length_map]; lia
  | succ k ih =>
    refine LCg.CompRest.succ ?_
    intro v I oI C oC D m₂ h6 tk6 E' hv hC hx F1 N1 off ne
    have ho := LCg.Off3.mem off (src, _) (.tail _ (.tail _ (.tail _ (.head _))))
    walk_at "st"
    refine one_spec B2 F1 X2 N1 T2 rfl (.tail ho.1.symm (.tail ho.2.1.symm (.tail ho.2.2.symm (.tail e2 (.tail e1 (.tail e3 (.head hap))))))) (.tail _ (.tail _ (.tail _ (.tail _ (.head _))))) e1 hab.1 hab.2 (Nat.le_of_ble_eq_true rfl) (Nat.le_of_ble_eq_true rfl) ?_ ?_ ?_
    · walk_at "rm"
    · walk_at "un"
    intro i hi a2 b2 ta2 tb2 n2 h7 tk7 ha2 hb2 hb3 F2 N2
    refine LCg.CompEnd.intro F2 N2 ((_, o1) :: (_, _) :: (_, _) :: (src, srcO a2 b2 ta2 tb2 n2) :: rest) (fun _ h => h) off trivial ?_
    apply ih
    · simp only [List.length_append, List.length_cons, List.length_nil]; lia
    · rw [List.all_append, hin, Bool.true_and, List.all_cons, List.all_nil, Bool.and_true]
      exact List.all_eq_true.mp (rfl : List.all _ byteV = true) _ (List.getElem_mem hi)
    · exact ⟨ha2, hb2, hb3⟩
end
section
open PySem PySem.W PyProof.Rows PySem.Calls
set_option maxRecDepth 100000
theorem filled20 : Mine.hd.heap_39 = Mine.hd.heap_39 ∧ PySem.Challenge.rw_ok0124_01 = PySem.Challenge.rw_ok0124_01 := by
  k_fill; exact ⟨rfl, rfl⟩
local macro_rules | `(tactic| walk_at "no loop") => `(tactic| ((walk_at "n0"); (walk_at "n4")))
set_option maxHeartbeats 8000000 in
theorem body_prec {prog : Program} {w : World} {p : Program} {loose : List Str} {mean : ExcName → Option Value} {mg mb : Str → Option Value} {dp un : Nat} {gd : Option (List Code)} {qual : Str} {f c' co : Addr} {outer : List Env} {A₀ : Around} {base g : Heap} {L' : Addr} {s : Shared}
    {news : List (Addr × Obj)} {oo : Obj} {a : Int} {ta : Tok} {r : Nat} {p1 p2 p4 : Pos} {h₁ : Heap} {tk : Nat}
    (B : Below A₀ base outer g) (F : Fr g L' h₁ (fun _ => none)) (X : (Mine.hd.heap_39 w.params).In g) (N : News g L' h₁ news) (T : Top p loose mean mg mb g)
    (ho : (co, oo) ∈ news) (hod : oo.data = .cell (some (.int a ta))) (ha1 : 0 ≤ a) (ha2 : a ≤ 1000000) (hr : r = Builtin.Int.intBits a) (hr2 : r ≤ 30) (hd : dp + 6 < recursionLimit) (hu : un + 48 < cLine) :
    wpAny (model prog w) (ktrTop dp un gd qual (lamS1 "most" "precision_of") L' f (.ref c') [(Str.ofString "most", co)] outer)
      (eval (.Call (.Name (Str.ofString "precision_of") p1) [.Name (Str.ofString "most") p2] [] p4) (envX qual (lamS1 "most" "precision_of") L' f (.ref c') [(Str.ofString "most", co)]))
      (BodyQ g L' s (fun v news' => (2 ≤ r ∧ r ≤ 16 ∧ a = 2 ^ r - 1) ∧ ∃ t, v = .int r t ∧ news' = news))
      (BodyE base g L' s (envX qual (lamS1 "most" "precision_of") L' f (.ref c') [(Str.ofString "most", co)] :: outer) news False (¬ (2 ≤ r ∧ r ≤ 16 ∧ a = 2 ^ r - 1)))
      { s with heap := h₁, toks := tk } := by
  have N1 : News g L' h₁ ((co, oo) :: news) := fun p hp => (List.mem_cons.mp hp).elim (fun e => e ▸ N _ ho) (N p)
  walk1
  walk1
  walk1
  walk1
  refine nameX_F N1 rfl (.head _) hod ?_
  walk1
  refine ⟨X.keeps F.keep, ?_⟩
  exact prec_spec B F X N T rfl ha1 ha2 hr hr2 hd hu
    (fun h1 h2 h3 t h' tk' F' N' => ⟨h', tk', _, rfl, F', N', ⟨h1, h2, h3⟩, t, rfl, rfl⟩)
    (fun h1 x h' tk' g₂ FG R U => ⟨x, 56, h', tk', g₂, rfl, rfl, FG, R, U, .inr ⟨rfl, h1⟩⟩)
abbrev lamS2 : Scope := { kind := ScopeKind.function, names := [(Str.ofString "height", NameKind.free), (Str.ofString "width", NameKind.free), (Str.ofString "check_sides", NameKind.globalImplicit)], isGenerator := false, isCoroutine := false }
set_option maxHeartbeats 8000000 in
theorem body_sides {prog : Program} {w : World} {p : Program} {loose : List Str} {mean : ExcName → Option Value} {mg mb : Str → Option Value} {dp un : Nat} {gd : Option (List Code)} {qual : Str} {f c' cw ch : Addr} {outer : List Env} {A₀ : Around} {base g : Heap} {L' : Addr} {s : Shared}
    {news : List (Addr × Obj)} {ow oh : Obj} {a b : Int} {ta tb : Tok} {p1 p2 p3 p4 : Pos} {h₁ : Heap} {tk : Nat}
    (B : Below A₀ base outer g) (F : Fr g L' h₁ (fun _ => none)) (X : (Mine.hd.heap_39 w.params).In g) (N : News g L' h₁ news) (T : Top p loose mean mg mb g)
    (ho : (cw, ow) ∈ news) (hod : ow.data = .cell (some (.int a ta))) (hh : (ch, oh) ∈ news) (hhd : oh.data = .cell (some (.int b tb)))
    (ha1 : -1000000 ≤ a) (ha2 : a ≤ 1000000) (hb1 : -1000000 ≤ b) (hb2 : b ≤ 1000000) (hd : dp + 6 < recursionLimit) (hu : un + 48 < cLine) :
    wpAny (model prog w) (ktrTop dp un gd qual lamS2 L' f (.ref c') [(Str.ofString "width", cw), (Str.ofString "height", ch)] outer)
      (eval (.Call (.Name (Str.ofString "check_sides") p1) [.Name (Str.ofString "width") p2, .Name (Str.ofString "height") p3] [] p4) (envX qual lamS2 L' f (.ref c') [(Str.ofString "width", cw), (Str.ofString "height", ch)]))
      (BodyQ g L' s (fun v news' => okSide a b = true ∧ v = .none ∧ news' = news))
      (BodyE base g L' s (envX qual lamS2 L' f (.ref c') [(Str.ofString "width", cw), (Str.ofString "height", ch)] :: outer) news False (okSide a b = false))
      { s with heap := h₁, toks := tk } := by
  have N1 : News g L' h₁ ((cw, ow) :: (ch, oh) :: news) := fun p hp => (List.mem_cons.mp hp).elim (fun e => e ▸ N _ ho) fun hp => (List.mem_cons.mp hp).elim (fun e => e ▸ N _ hh) (N p)
  walk1
  walk1
  walk1
  walk1
  refine nameX_F N1 rfl (.head _) hod ?_
  walk1
  refine nameX_F N1 rfl (.tail _ (.head _)) hhd ?_
  walk1
  refine ⟨X.keeps F.keep, ?_⟩
  exact sides_spec B F X N T rfl ha1 ha2 hb1 hb2 hd hu
    (fun h1 h' tk' F' N' => ⟨h', tk', _, rfl, F', N', h1, rfl, rfl⟩)
    (fun h1 x h' tk' g₂ FG R U => ⟨x, 56, h', tk', g₂, rfl, rfl, FG, R, U, .inr ⟨rfl, h1⟩⟩)
end
section
open PySem PySem.W PyProof.Rows PySem.Calls
set_option maxRecDepth 100000
def DueL (a : Int) (ys : List Value) : Prop := (∃ (r : Nat) (t : Tok), 2 ≤ r ∧ r ≤ 16 ∧ a = 2 ^ r - 1 ∧ ys = [.int r t]) ∨ ((∀ r : Nat, 2 ≤ r → r ≤ 16 → a ≠ 2 ^ r - 1) ∧ ys = [])
def dueV (a : Int) (v : Value) : Bool := match v with | .int k _ => a == 2 ^ k.toNat - 1 | _ => false
theorem pow_inj2 {a : Int} {r q : Nat} (h1 : a = 2 ^ r - 1) (h2 : a = 2 ^ q - 1) : r = q := by
  have h3 : (2 : Int) ^ r = 2 ^ q := by lia
  have h4 : (2 : Nat) ^ r = 2 ^ q := by exact_mod_cast h3
  exact (Nat.pow_right_inj (by decide)).mp h4
theorem due_none {a : Int} : ∀ {vs : List Value} {k : Nat}, (∀ (j : Nat) (v : Value), vs[j]? = some v → ∃ t, v = Value.int ((k : Int) + (j : Int)) t) → (∀ r : Nat, k ≤ r → r < k + vs.length → a ≠ 2 ^ r - 1) → vs.filter (dueV a) = []
  | [], _, _, _ => rfl
  | v :: l, k, h, hn => by
    obtain ⟨t, rfl⟩ := h 0 v rfl
    rw [List.filter_cons]
    have hv : dueV a (Value.int ((k : Int) + ((0 : Nat) : Int)) t) = false := by
      show (a == 2 ^ ((k : Int) + ((0 : Nat) : Int)).toNat - 1) = false
      have := hn k (Nat.le_refl _) (by simp)
      rw [show ((k : Int) + ((0 : Nat) : Int)).toNat = k by lia]
      simpa using this
    rw [hv]
    exact due_none (k := k + 1) (fun j v hj => by
      obtain ⟨t, e⟩ := h (j + 1) v (by simpa using hj)
      exact ⟨t, by rw [e]; congr 1; push_cast; lia⟩) (fun r h1 h2 => hn r (by lia) (by simp at h2 ⊢; lia))
theorem due_filter {a : Int} : ∀ {vs : List Value} {k : Nat}, (∀ (j : Nat) (v : Value), vs[j]? = some v → ∃ t, v = Value.int ((k : Int) + (j : Int)) t) →
    (∃ (r : Nat) (t : Tok), k ≤ r ∧ r < k + vs.length ∧ a = 2 ^ r - 1 ∧ vs.filter (dueV a) = [.int r t]) ∨ ((∀ r : Nat, k ≤ r → r < k + vs.length → a ≠ 2 ^ r - 1) ∧ vs.filter (dueV a) = [])
  | [], k, _ => .inr ⟨fun r h1 h2 => by simp at h2; lia, rfl⟩
  | v :: l, k, h => by
    obtain ⟨t, rfl⟩ := h 0 v rfl
    have h' : ∀ (j : Nat) (v : Value), l[j]? = some v → ∃ t, v = Value.int (((k + 1 : Nat) : Int) + (j : Int)) t := fun j v hj => by
      obtain ⟨t, e⟩ := h (j + 1) v (by simpa using hj)
      exact ⟨t, by rw [e]; congr 1; push_cast; lia⟩
    rw [List.filter_cons]
    have ev : dueV a (Value.int ((k : Int) + ((0 : Nat) : Int)) t) = (a == 2 ^ k - 1) := by
      show (a == 2 ^ ((k : Int) + ((0 : Nat) : Int)).toNat - 1) = _
      rw [show ((k : Int) + ((0 : Nat) : Int)).toNat = k by lia]
    rw [ev]
    by_cases hk : a = 2 ^ k - 1
    · refine .inl ⟨k, t, Nat.le_refl _, by simp, hk, ?_⟩
      rw [if_pos (by simp [hk])]
      rw [due_none h' (fun r h1 h2 e => by have := pow_inj2 hk e; lia)]
      congr 2
    · rw [if_neg (by simpa using hk)]
      rcases due_filter h' with ⟨r, t', h1, h2, h3, h4⟩ | ⟨h1, h2⟩
      · exact .inl ⟨r, t', by lia, by simp at h2 ⊢; lia, h3, h4⟩
      · refine .inr ⟨fun r h3 h4 => ?_, h2⟩
        by_cases hr : r = k
        · rw [hr]; exact hk
        · exact h1 r (by lia) (by simp at h4 ⊢; lia)
theorem due_comp {prog : Program} {w : World} {A : Around} {E : Value → Shared → Prop} {s : Shared} {env : Env} {x y z : Str} {py px p5 p6 p7 p8 p9 p10 p11 p12 pos spos : Pos} {iter : PySem.Expr} {a : Int} {ta : Tok} {co : Addr} {oo : Obj} {h₀ : Heap} {L : Addr} {m : Str → Option Value} {news : List (Addr × Obj)} {scope : Scope} {cl : List (Str × Addr)} {Q : Flow → Shared → Prop}
    (hh : A.handled = none) (hL : env.locals = L) (_F0 : Fr h₀ L s.heap m) (_N0 : News h₀ L s.heap news)
    (hm : (co, oo) ∈ news) (hod : oo.data = .cell (some (.int a ta))) (hcz : cl.lookup z = some co) (hkz : ∀ C, (compEnvC scope cl C env).kindOf z = some .cell) (hkx : ∀ C, (compEnvC scope cl C env).kindOf x = some .local) (hkf : ∀ C, (compEnvC scope cl C env).scope.kind = .function)
    (hdz : (z == ("__debug__" : Str)) = false) (hdx : (x == ("__debug__" : Str)) = false)
    (hsw : swapsWith (.ListComp (.Name x p5) [⟨.Name x px, iter, [.Compare (.Name z p6) [.Eq] [.BinOp (.BinOp (.Constant (.int 2) 0 p7) .Pow (.Name x p8) p9) .Sub (.Constant (.int 1) 0 p10) p11] p12], 0⟩] scope pos) (some (.Name y py)) spos.line env = pure true)
    (hclos : closureFor scope env = pure cl) (hcell : ∀ z ∈ scope.names, z.2 ≠ .cell) (hkind : scope.kind = .function)
    (hnames : ∀ z ∈ scope.names, z.2 = .local → scope.names.lookup z.1 = some .local) (hx : scope.names.lookup x = some .local)
    (hy : env.kindOf y = some .local) (hp : (env.scope.kind == .class || (env.scope.kind == .module && env.locals != env.globals)) = false)
    (hiter : wpAny (model prog w) A (eval iter env) (fun xv s₁ => ∃ r h' tk t u v, xv = .ref r ∧ s₁ = { s with heap := h', toks := tk } ∧ IsRange h' r 2 17 1 t u v ∧ Fr h₀ L h' m ∧ News h₀ L h' news) E s)
    (h : ∀ D ys n h' tk, DueL a ys → Fr h₀ L h' (fun z => if z = y then some (.ref D) else m z) → News h₀ L h' ((D, lstO ys n) :: news) → (∀ p ∈ news, p.1 ≠ D) → Q .next { s with heap := h', toks := tk })
    (hs : ∀ x, foldedSetIterable iter env x = pure x := by intro _; rfl) :
    wpAny (model prog w) A (exec (.Assign [.Name y py] (.ListComp (.Name x p5) [⟨.Name x px, iter, [.Compare (.Name z p6) [.Eq] [.BinOp (.BinOp (.Constant (.int 2) 0 p7) .Pow (.Name x p8) p9) .Sub (.Constant (.int 1) 0 p10) p11] p12], 0⟩] scope pos) spos) env) Q E s := by
  subst hL
  refine wpAny_Assign_ListComp_free (p := dueV a) (F := fun v b => b = v) hsw hclos hcell hkind hnames hx hy hp (wpAny_mono hiter (fun xv s₁ hx₁ => ?_) fun _ _ e => e) hs
  obtain ⟨r, h1, tk1, t, u, v, rfl, rfl, hr, F, N⟩ := hx₁
  refine wpAny_pyIter_range hr (by decide) ?_
  have hnL : env.locals ≠ h1.objs.size := Nat.ne_of_lt F.ns.lt
  refine ⟨h1.objs.size, [h1.objs.size], [h1.objs.size], 15, _, _, m, rfl, (Walks.range hh _ 2 1 15).bound, ?_, ?_, ?_, ?_, (F.push _).ns, ⟨?_, ?_⟩, ?_⟩
  · rw [sizeLine_eq]; lia
  · exact Heap.get?_push_size _ rfl
  · intro b hb; rw [List.mem_singleton.mp hb]; exact Heap.lt_size (Heap.get?_push_size _ rfl)
  · intro hm'; exact hnL (List.mem_singleton.mp hm')
  · rintro C i v s₃ m₃ E' hC ⟨hi, t', rfl⟩ hn hv hk _
    have hc3 : s₃.heap.get? co = some oo := hk _ _ (fun hm' => Nat.ne_of_lt (Heap.lt_size (N _ hm).1) (List.mem_singleton.mp hm')) (Heap.get?_push_of_some _ (N _ hm).1)
    rw [List.forIn_cons]
    refine wpAny_bind ?_
    rw [if_pos rfl]
    refine wpAny_bind (wpAny_isTrue_Compare1 (wpAny_Name (wpAny_loadName_cell (env := compEnvC scope cl C env) (hkf C) (hkz C) hcz ⟨oo, hc3, hod⟩ ?_) hdz))
    refine wpAny_BinOp (wpAny_BinOp (wpAny_Constant_int (wpAny_Name (wpAny_loadName_local (env := compEnvC scope cl C env) (hkf C) (hkx C) hn hv ?_) hdx)))
    refine pow_int_small (by lia) (by lia) (by decide) ?_
    refine wpAny_Constant_int ?_
    refine sub_int ?_
    refine eq_int ?_
    refine wpAny_truthy_bool ?_
    refine wpAny_pure ?_
    show wpAny _ _ (forIn [] _ _) _ _ _
    rw [List.forIn_nil]
    exact wpAny_pure ⟨rfl, s₃.heap, _, rfl, fun _ _ e => e⟩
  · rintro C i v s₃ m₃ E' hC ⟨hi, t', rfl⟩ _ hn hv _ _
    exact wpAny_Name (wpAny_loadName_local (env := compEnvC scope cl C env) (hkf C) (hkx C) hn hv ⟨rfl, s₃.heap, s₃.toks, rfl, fun _ _ e => e⟩) hdx
  · intro D h' tk ys vs hD hl hpl hlen hP hF hns hk
    obtain ⟨n, hpl⟩ := hpl
    have hkeep : ∀ b o', b ≠ env.locals → h1.get? b = some o' → h'.get? b = some o' := fun b o' hb e => hk b o' hb (fun hm => Nat.ne_of_lt (Heap.lt_size e) (List.mem_singleton.mp hm)) (Heap.get?_push_of_some _ e)
    have hold : ∀ b o', h1.get? b = some o' → b ≠ D := fun b o' e q => by
      have h9 : (h1.push { cls := .type "range_iterator", data := .fields #[rawInt 2, rawInt (Builtin.Range.rangeSize 2 17 1), rawInt 1] }).get? b = some o' := Heap.get?_push_of_some _ e
      rw [q, hD] at h9; cases h9
    have hys : ys.toList = vs.filter (dueV a) := by
      have := paired_map hF (g := fun v => v) (fun a b e => e)
      rw [List.map_id'] at this
      exact this
    have hdue : DueL a ys.toList := by
      rw [hys]
      rcases due_filter (a := a) (vs := vs) (k := 2) (fun j v hj => by
        obtain ⟨_, t, e⟩ := hP j v hj
        exact ⟨t, by rw [e]; congr 1; push_cast; lia⟩) with ⟨r, t, h1, h2, h3, h4⟩ | ⟨h1, h2⟩
      · exact .inl ⟨r, t, h1, by lia, h3, h4⟩
      · exact .inr ⟨fun r h3 h4 => h1 r h3 (by lia), h2⟩
    refine h D ys.toList n h' tk hdue ⟨hns, fun b o' e => hkeep b o' (Nat.ne_of_lt (Nat.lt_of_lt_of_le (Heap.lt_size e) F.above)) (F.keep b o' e), F.above⟩ (fun p hp => ?_) (fun p hp => hold _ _ (N p hp).1)
    rcases List.mem_cons.mp hp with rfl | hp
    · obtain ⟨oL, _, _, hL, _⟩ := F.ns
      refine ⟨hpl, Ne.symm (hold _ _ hL), ?_⟩
      cases q : h₀.get? D with
      | none => rfl
      | some o' => exact absurd rfl (hold D o' (F.keep D o' q))
    · exact ⟨hkeep _ _ (N p hp).2.1 (N p hp).1, (N p hp).2⟩
end
section
open PySem PySem.W PyProof.Rows PySem.Calls
set_option maxRecDepth 100000
theorem filled21 : Mine.hd.heap_39 = Mine.hd.heap_39 ∧ PySem.Challenge.rw_ok0124_01 = PySem.Challenge.rw_ok0124_01 := by
  k_fill; exact ⟨rfl, rfl⟩
local macro_rules | `(tactic| walk_at "no loop") => `(tactic| ((fail_if_success (with_reducible show wpAny _ _ (storeName _ (PySem.Str.ofString "most") _) _ _ _)); (fail_if_success (with_reducible show wpAny _ _ (storeName _ (PySem.Str.ofString "width") _) _ _ _)); (fail_if_success (with_reducible show wpAny _ _ (storeName _ (PySem.Str.ofString "height") _) _ _ _)); (walk_at "n8"); (walk_at "n0"); (walk_at "n1"); (walk_at "n2"); (walk_at "n9"); (walk_at "n6"); (walk_at "n5"); (walk_at "n7"); (fail_if_success (with_reducible show wpAny _ _ (exec (PySem.Stmt.Assign _ (PySem.Expr.ListComp _ _ _ _) _) _) _ _ _)); (walk_at "n10"); (walk_at "n11"); (walk_at "n3")))
local macro_rules | `(tactic| walk_at "callWith ref") => `(tactic| walk_at "s4")
local macro_rules | `(tactic| walk_at "callWith ref") => `(tactic| walk_at "s5")
local macro_rules | `(tactic| walk_at "st") => `(tactic| repeat' (first | ((with_reducible refine execs_one ?_); try dsimp only) | ((with_reducible refine execs_abs ?_); intro Qa ha; try dsimp only) | (with_reducible first | refine abs_next (by with_reducible assumption) ?_ | refine abs_ret (by with_reducible assumption) ?_ | refine abs_brk (by with_reducible assumption) ?_ | refine abs_cont (by with_reducible assumption) ?_) | (k_unfold; (try dsimp only)) | (k_end; wrow_close) | (walk_at "no loop"; walk1; try dsimp only) | (walk_at "no loop"; dsimp only; walk1) | (walk_at "no loop"; leave1; walk_say "STEP leave1"; try dsimp only) | fail "no step"))
local macro_rules | `(tactic| walk_at "enterCR") => `(tactic| walk_at "s6")
theorem cell_ne {x src : Addr} (h : src < x) : x + 1 ≠ src ∧ x + 1 + 1 ≠ src ∧ x + 1 + 1 + 1 ≠ src ∧ x + 1 + 1 + 1 + 1 ≠ src := by
  have h1 : x < x + 1 := Nat.lt_succ_self _
  have h2 : x + 1 < x + 1 + 1 := Nat.lt_succ_self _
  have h3 : x + 1 + 1 < x + 1 + 1 + 1 := Nat.lt_succ_self _
  have h4 : x + 1 + 1 + 1 < x + 1 + 1 + 1 + 1 := Nat.lt_succ_self _
  exact ⟨Nat.ne_of_gt (Nat.lt_trans h h1), Nat.ne_of_gt (Nat.lt_trans h (Nat.lt_trans h1 h2)), Nat.ne_of_gt (Nat.lt_trans h (Nat.lt_trans h1 (Nat.lt_trans h2 h3))), Nat.ne_of_gt (Nat.lt_trans h (Nat.lt_trans h1 (Nat.lt_trans h2 (Nat.lt_trans h3 h4))))⟩
theorem l1_swap {x src : Addr} {o : Obj} {r : List (Addr × Obj)} (h : ∀ p ∈ (src, o) :: r, p.1 < x) : ∀ (o' : Obj), ∀ p ∈ (src, o') :: r, p.1 < x := fun o' p hp => (List.mem_cons.mp hp).elim (fun e => by subst e; exact h (src, o) (.head _)) fun hp => h p (.tail _ hp)
theorem upd_most {x : Addr} {o1 o2 o3 o4 : Obj} {r : List (Addr × Obj)} (h : ∀ p ∈ r, p.1 < x) :
    UpdF (x + 1 + 1 + 1) o2 ((x + 1 + 1 + 1 + 1, o1) :: (x + 1 + 1 + 1, o2) :: (x + 1 + 1, o3) :: (x + 1, o4) :: r) (fun o' => (x + 1 + 1 + 1 + 1, o1) :: (x + 1 + 1 + 1, o') :: (x + 1 + 1, o3) :: (x + 1, o4) :: r) := by
  have h1 : x < x + 1 := Nat.lt_succ_self _
  have h2 : x + 1 < x + 1 + 1 := Nat.lt_succ_self _
  have h3 : x + 1 + 1 < x + 1 + 1 + 1 := Nat.lt_succ_self _
  have h4 : x + 1 + 1 + 1 < x + 1 + 1 + 1 + 1 := Nat.lt_succ_self _
  refine .tail (Nat.ne_of_gt h4) (.head fun p hp => ?_)
  rcases List.mem_cons.mp hp with rfl | hp
  · exact Nat.ne_of_lt h3
  · rcases List.mem_cons.mp hp with rfl | hp
    · exact Nat.ne_of_lt (Nat.lt_trans h2 h3)
    · exact Nat.ne_of_lt (Nat.lt_trans (h p hp) (Nat.lt_trans h1 (Nat.lt_trans h2 h3)))
theorem hap_bits {x D src : Nat} {o1 o2 o3 o4 so so' ot ot' od : Obj} {rest : List (Addr × Obj)} {g h : Heap} {L : Addr} (N : News g L h ((D, od) :: (x + 1 + 1 + 1 + 1, o1) :: (x + 1 + 1 + 1, o2) :: (x + 1 + 1, o3) :: (x + 1, o4) :: (src, so) :: (180, ot) :: rest))
    (hD : ∀ p ∈ (x + 1 + 1 + 1 + 1, o1) :: (x + 1 + 1 + 1, o2) :: (x + 1 + 1, o3) :: (x + 1, o4) :: (src, so) :: (180, ot) :: rest, p.1 ≠ D) (l1 : ∀ p ∈ (src, so') :: (180, ot') :: rest, p.1 < x) (hap : ∀ q ∈ (180, ot') :: rest, q.1 ≠ src) (hr : ∀ q ∈ rest, q.1 ≠ 180) :
    News g L h ([(D, od)] ++ (180, ot) :: ([] ++ ((x + 1 + 1 + 1 + 1, o1) :: (x + 1 + 1 + 1, o2) :: (x + 1 + 1, o3) :: (x + 1, o4) :: (src, so) :: rest))) ∧
    ∀ q ∈ [(D, od)] ++ ([] ++ ((x + 1 + 1 + 1 + 1, o1) :: (x + 1 + 1 + 1, o2) :: (x + 1 + 1, o3) :: (x + 1, o4) :: (src, so) :: rest)), q.1 ≠ 180 := by
  have h9 : 180 < x := l1 _ (.tail _ (.head _))
  refine ⟨fun q hq => N q ?_, ?_⟩
  · simp only [List.cons_append, List.nil_append, List.mem_cons] at hq ⊢
    rcases hq with h | h | h | h | h | h | h | h <;> simp [h]
  · intro q hq
    simp only [List.cons_append, List.nil_append, List.mem_cons] at hq
    rcases hq with rfl | rfl | rfl | rfl | rfl | rfl | hq
    · exact (hD (180, ot) (by simp)).symm
    · exact Nat.ne_of_gt (by dsimp only; lia)
    · exact Nat.ne_of_gt (by dsimp only; lia)
    · exact Nat.ne_of_gt (by dsimp only; lia)
    · exact Nat.ne_of_gt (by dsimp only; lia)
    · exact (hap _ (.head _)).symm
    · exact hr q hq
theorem bits_back {p0 p1 p2 p3 p4 s t : Addr × Obj} {cod rest : List (Addr × Obj)} : ∀ q ∈ p1 :: p2 :: p3 :: p4 :: s :: t :: (cod ++ rest), q ∈ [p0] ++ t :: (cod ++ p1 :: p2 :: p3 :: p4 :: s :: rest) := by
  intro q hq
  simp only [List.cons_append, List.nil_append, List.mem_cons, List.mem_append] at hq ⊢
  rcases hq with h | h | h | h | h | h | h | h <;> simp [h]
theorem bits_out {f T p1 p2 p3 p4 s : Addr × Obj} {cod rest : List (Addr × Obj)} : ∀ q ∈ T :: rest, q ∈ f :: ([] ++ T :: (cod ++ p1 :: p2 :: p3 :: p4 :: s :: rest)) := by
  intro q hq
  simp only [List.mem_cons, List.nil_append, List.mem_append] at hq ⊢
  rcases hq with h | h <;> simp [h]
theorem bits_apart {x src : Nat} {so so' ot ot' o1 o2 o3 o4 : Obj} {cod rest : List (Addr × Obj)} (hap : ∀ q ∈ (180, ot') :: rest, q.1 ≠ src) (l1 : ∀ p ∈ (src, so') :: (180, ot') :: rest, p.1 < x)
    (h : ∀ q ∈ cod, ∀ r ∈ (x + 1 + 1 + 1 + 1, o1) :: (x + 1 + 1 + 1, o2) :: (x + 1 + 1, o3) :: (x + 1, o4) :: (src, so) :: rest, q.1 ≠ r.1) :
    (∀ q ∈ (180, ot) :: (cod ++ rest), q.1 ≠ src) ∧ (∀ o1 o2 o3 o4 so, UpdF (x + 1 + 1 + 1 + 1) o1 ((x + 1 + 1 + 1 + 1, o1) :: (x + 1 + 1 + 1, o2) :: (x + 1 + 1, o3) :: (x + 1, o4) :: (src, so) :: (180, ot) :: (cod ++ rest)) (fun o' => (x + 1 + 1 + 1 + 1, o') :: (x + 1 + 1 + 1, o2) :: (x + 1 + 1, o3) :: (x + 1, o4) :: (src, so) :: (180, ot) :: (cod ++ rest))) ∧
    (∀ o1 o2 o3 o4 so, UpdF (x + 1 + 1) o3 ((x + 1 + 1 + 1 + 1, o1) :: (x + 1 + 1 + 1, o2) :: (x + 1 + 1, o3) :: (x + 1, o4) :: (src, so) :: (180, ot) :: (cod ++ rest)) (fun o' => (x + 1 + 1 + 1 + 1, o1) :: (x + 1 + 1 + 1, o2) :: (x + 1 + 1, o') :: (x + 1, o4) :: (src, so) :: (180, ot) :: (cod ++ rest))) := by
  have h9 : 180 < x := l1 _ (.tail _ (.head _))
  have h8 : src < x := l1 _ (.head _)
  refine ⟨?_, fun o1 o2 o3 o4 so => .head ?_, fun o1 o2 o3 o4 so => .tail (Nat.ne_of_gt (by lia)) (.tail (Nat.ne_of_gt (by lia)) (.head ?_))⟩
  · intro q hq
    rcases List.mem_cons.mp hq with rfl | hq
    · exact hap (180, ot') (.head _)
    · rcases List.mem_append.mp hq with hq | hq
      · exact h q hq _ (.tail _ (.tail _ (.tail _ (.tail _ (.head _)))))
      · exact hap q (.tail _ hq)
  · intro q hq
    simp only [List.mem_cons, List.mem_append] at hq
    rcases hq with rfl | rfl | rfl | rfl | rfl | hq | hq
    · exact Nat.ne_of_lt (by dsimp only; lia)
    · exact Nat.ne_of_lt (by dsimp only; lia)
    · exact Nat.ne_of_lt (by dsimp only; lia)
    · exact Nat.ne_of_lt (by dsimp only; lia)
    · exact Nat.ne_of_lt (by dsimp only; lia)
    · exact h q hq _ (.head _)
    · have := l1 q (.tail _ (.tail _ hq))
      exact Nat.ne_of_lt (by lia)
  · intro q hq
    simp only [List.mem_cons, List.mem_append] at hq
    rcases hq with rfl | rfl | rfl | hq | hq
    · exact Nat.ne_of_lt (by dsimp only; lia)
    · exact Nat.ne_of_lt (by dsimp only; lia)
    · exact Nat.ne_of_lt (by dsimp only; lia)
    · exact h q hq _ (.tail _ (.tail _ (.head _)))
    · have := l1 q (.tail _ (.tail _ hq))
      exact Nat.ne_of_lt (by lia)
theorem bits_again {a1 a2 a3 a4 a5 : Addr} {o1 o2 o3 o4 o5 q1 q2 q3 q4 q5 : Obj} {p0 : Addr × Obj} {cod rest : List (Addr × Obj)} (h1 : ∀ q ∈ [p0] ++ (cod ++ (a1, o1) :: (a2, o2) :: (a3, o3) :: (a4, o4) :: (a5, o5) :: rest), q.1 ≠ 180)
    (h2 : ∀ q ∈ cod, ∀ r ∈ (a1, o1) :: (a2, o2) :: (a3, o3) :: (a4, o4) :: (a5, o5) :: rest, q.1 ≠ r.1) :
    (∀ q ∈ [] ++ (cod ++ (a1, q1) :: (a2, q2) :: (a3, q3) :: (a4, q4) :: (a5, q5) :: rest), q.1 ≠ 180) ∧ (∀ q ∈ cod, ∀ r ∈ (a1, q1) :: (a2, q2) :: (a3, q3) :: (a4, q4) :: (a5, q5) :: rest, q.1 ≠ r.1) := by
  refine ⟨fun q hq => ?_, fun q hq r hr => ?_⟩
  · simp only [List.nil_append, List.mem_append, List.mem_cons] at hq
    rcases hq with h | rfl | rfl | rfl | rfl | rfl | h
    · exact h1 q (by simp [h])
    · exact h1 (a1, o1) (by simp)
    · exact h1 (a2, o2) (by simp)
    · exact h1 (a3, o3) (by simp)
    · exact h1 (a4, o4) (by simp)
    · exact h1 (a5, o5) (by simp)
    · exact h1 q (by simp [h])
  · simp only [List.mem_cons] at hr
    rcases hr with rfl | rfl | rfl | rfl | rfl | h
    · exact h2 q hq (a1, o1) (by simp)
    · exact h2 q hq (a2, o2) (by simp)
    · exact h2 q hq (a3, o3) (by simp)
    · exact h2 q hq (a4, o4) (by simp)
    · exact h2 q hq (a5, o5) (by simp)
    · exact h2 q hq r (by simp [h])
theorem bits_reord {p1 p2 p3 p4 s t : Addr × Obj} {cod rest : List (Addr × Obj)} : ∀ q ∈ [] ++ t :: (cod ++ p1 :: p2 :: p3 :: p4 :: s :: rest), q ∈ p1 :: p2 :: p3 :: p4 :: s :: t :: (cod ++ rest) := by
  intro q hq
  simp only [List.nil_append, List.mem_cons, List.mem_append] at hq ⊢
  rcases hq with h | h | h | h | h | h | h | h <;> simp [h]
def intV (lo hi : Int) (v : Value) : Bool := match v with | .int k _ => decide (lo ≤ k) && decide (k ≤ hi) | _ => false
theorem intV_get {lo hi : Int} {v : Value} (h : intV lo hi v = true) : ∃ k t, v = .int k t ∧ lo ≤ k ∧ k ≤ hi := by
  unfold intV at h
  split at h
  · rename_i k t
    simp only [Bool.and_eq_true, decide_eq_true_eq] at h
    exact ⟨k, t, rfl, h⟩
  · cases h
theorem pow_rng : ∀ n : Nat, n < 18 → (1 : Int) ≤ 2 ^ (1 + n) - 1 ∧ (2 : Int) ^ (1 + n) - 1 ≤ 262143 := by decide
theorem most_rng {d k : Int} (h0 : 0 ≤ d) (h1 : d < 18) (k1 : -1 ≤ k) (k2 : k ≤ 1) : 0 ≤ 2 ^ (1 + d).toNat - 1 + k ∧ 2 ^ (1 + d).toNat - 1 + k ≤ 300000 := by
  have h := pow_rng d.toNat (by lia)
  rw [show (1 + d).toNat = 1 + d.toNat by lia]
  generalize (2 : Int) ^ (1 + d.toNat) = z at *
  lia
theorem ok_hi {a b : Int} (h : 1 ≤ if b < a then b else a) : decide ((if b > a then b else a) ≤ 65535) = okSide a b := by
  unfold okSide
  rw [decide_eq_decide]
  split at h <;> split <;> lia
theorem ok_lo {a b : Int} (h : ¬ 1 ≤ if b < a then b else a) : decide (1 ≤ if b < a then b else a) = okSide a b := by
  unfold okSide
  rw [decide_eq_decide]
  split at h <;> split <;> lia
theorem intBits_pow : ∀ r : Nat, r ≤ 16 → 2 ≤ r → Builtin.Int.intBits (2 ^ r - 1) = r := by decide +kernel
theorem intBits_le {a : Int} (h0 : 0 ≤ a) (h1 : a ≤ 300000) : Builtin.Int.intBits a ≤ 30 := by
  unfold Builtin.Int.intBits
  split
  · lia
  · rename_i h
    have h2 : a.natAbs ≠ 0 := by
      intro h3
      apply h
      simp only [beq_iff_eq]
      lia
    have : a.natAbs.log2 < 29 := (Nat.log2_lt h2).mpr (by lia)
    lia
set_option maxHeartbeats 8000000 in
theorem bits_spec {prog : Program} {w : World} {p : Program} {loose : List Str} {mean : ExcName → Option Value} {mg mb : Str → Option Value} {dp un : Nat} {gd : Option (List Code)} {cn : Str} {cs : Scope} {fa : Addr} {ccd : Value} {cl : List (Str × Addr)} {A₀ : Around} {base : Heap} {L : Addr} {m : Str → Option Value} {s : Shared} {Q E : Value → Shared → Prop}
    {rest : List (Addr × Obj)} {src : Addr} {a b : Int} {ta tb : Tok} {n : Nat}
    (B : Below A₀ base [] base) (F : Fr base L s.heap m) (X : (Mine.hd.heap_39 w.params).In base) (N : News base L s.heap ((src, srcO a b ta tb n) :: (180, tabObj #[]) :: rest)) (T : Top p loose mean mg mb base) (hk : cs.kind = .function)
    (C : CodeHd base 182 180) (hap : ∀ q ∈ (180, tabObj #[]) :: rest, q.1 ≠ src) (hr180 : ∀ q ∈ rest, q.1 ≠ 180) (ha : 0 ≤ a) (hb : 0 ≤ b ∧ b < 2147483647) (hd : dp + 20 < recursionLimit) (hu : un + 300 < cLine)
    (ret : ∀ ps' h' tk', Fr base L h' m → News base L h' ((180, tabObj ps') :: rest) → Q (.bool true) { s with heap := h', toks := tk' }) :
    wpAny (model prog w) (ktrTop dp un gd cn cs L fa ccd cl []) (call (.ref 183) [.ref src]) Q E s := by
  refine wpAny_call ?_
  k_dflt (walk_at "enterCR")
  refine noE ?_
  clear F N
  rename Fr _ _ _ (bindL _ _ _) => F1
  replace F1 : Fr _ _ _ (fun _ => none) := F1
  rename Frag.In _ _ => X2
  rename Below _ _ _ _ => B2
  rename Top _ _ _ _ _ _ => T2
  rename Fr base L _ m => FG
  rename News _ _ _ _ => N1
  rename (∀ p ∈ _, Prod.fst p < _) => l1
  rename (Obj.data _ = _) => d4
  revert d4
  rename (Obj.data _ = _) => d3
  revert d3
  rename (Obj.data _ = _) => d2
  revert d2
  rename (Obj.data _ = _) => d1
  revert d1
  intro d1 d2 d3 d4
  replace d1 : _ = Data.cell none := d1
  replace d2 : _ = Data.cell none := d2
  replace d3 : _ = Data.cell none := d3
  replace d4 : _ = Data.cell (some (.ref src)) := d4
  have CH := C
  have l3 := l1_swap l1
  have l0 := l1
  refine pk ?_
  intro Pk ik
  obtain ⟨e1, e2, e3, e4⟩ := cell_ne (l1 _ (.head _))
  refine up ik ?_
  clear ik
  walk_at "st"
  have hap' : ∀ q ∈ (180, tabObj #[]) :: rest, q.1 ≠ src := hap
  refine take_spec B2 F1 X2 N1 T2 rfl (.tail e4 (.tail e3 (.tail e2 (.tail e1 (.head hap'))))) ha hb (by decide) (by decide) ?_ ?_ ?_
  · walk_at "rm"
  · walk_at "un"
  clear F1 N1
  intro d a1 b1 ta1 tb1 t1 n1 h5 tk5 hd0 hd1 ha1 hb1 hb2 F1 N1
  replace N1 : News _ _ _ ((_, _) :: (_, _) :: (_, _) :: (_, _) :: (src, srcO a1 b1 ta1 tb1 n1) :: (180, tabObj #[]) :: rest) := N1
  walk_at "st"
  rename Fr _ _ _ _ => F1
  rename News _ _ _ _ => N1
  rename (_ ∧ _ ∧ _ ∧ _ ∧ _ ∧ _ ∧ AllLt _ _) => l2
  refine one_spec B2 F1 X2 N1 T2 rfl (.tail (Nat.ne_of_gt l2.2.2.2.2.1) (.tail e4 (.tail e3 (.tail e2 (.tail e1 (.head hap')))))) (.head _) (Nat.ne_of_gt l2.2.2.2.2.1) ha1 ⟨hb1, hb2⟩ (Nat.le_of_ble_eq_true rfl) (Nat.le_of_ble_eq_true rfl) ?_ ?_ ?_
  · walk_at "rm"
  · walk_at "un"
  clear F1 N1
  intro i hi a2 b2 ta2 tb2 n2 h7 tk7 ha2 hb3 hb4 F1 N1
  refine pk ?_
  intro Pk ik
  obtain ⟨k, tk, hkv, hk1, hk2⟩ := intV_get (lo := -1) (hi := 1) (List.all_eq_true.mp (rfl : List.all _ (intV (-1) 1) = true) _ (List.getElem_mem hi))
  refine up ik ?_
  clear ik
  rw [hkv]
  replace N1 : News _ _ _ ((_, _) :: (_, _) :: (_, _) :: (_, _) :: (src, srcO a2 b2 ta2 tb2 n2) :: (180, tabObj #[]) :: rest) := fun q hq => N1 q (.tail _ hq)
  walk_at "st"
  rename Fr _ _ _ _ => F1
  rename News _ _ _ _ => N1
  try dsimp only
  refine withEq (2 ^ (1 + d).toNat - 1 + k : Int) fun most hmost => ?_
  have hmr : 0 ≤ most ∧ most ≤ 300000 := by rw [hmost]; exact most_rng hd0 hd1 hk1 hk2
  rw [← hmost]
  k_dflt (refine storeX_C F1 N1 rfl (upd_most (l3 _)) d2 ?_)
  clear F1 N1 d2
  intro h8 o2 F1 N1 d2
  replace N1 : News _ _ _ ((_, _) :: (_, o2) :: (_, _) :: (_, _) :: (src, srcO a2 b2 ta2 tb2 n2) :: (180, tabObj #[]) :: rest) := N1
  walk_at "st"
  rename Fr _ _ _ _ => F1
  rename News _ _ _ _ => N1
  k_dflt (refine due_comp rfl rfl F1 N1 (.tail _ (.head _)) d2 rfl (fun _ => rfl) (fun _ => rfl) (fun _ => rfl) (by decide) (by decide) (by with_unfolding_all rfl) rfl (by decide) rfl (by decide) rfl rfl rfl ?_ ?_)
  · walk_at "st"
    rename IsRange _ _ _ _ _ _ _ _ => r1
    rename Fr _ _ _ _ => F1
    rename News _ _ _ _ => N1
    · exact F1
    · rename News _ _ _ _ => N2
      exact N2
  clear F1 N1
  intro D ys nd h9 tk9 hdue F1 N1 hD
  walk_at "st"
  have hx9 := hap_bits N1 hD l1 hap hr180
  obtain ⟨N1, hapL⟩ := hx9
  refine lam_make (fr := [(D, _)]) (cod := []) (rest := (_, _) :: (_, o2) :: (_, _) :: (_, _) :: (src, srcO a2 b2 ta2 tb2 n2) :: rest) F1 N1 T2 (CH.keeps FG.keep) rfl (lamTab0 (q := "_law_bits_right.<locals>.<lambda>")) hapL (fun q hq => nomatch hq) rfl rfl rfl ?_
  clear F1 N1
  intro f c' oc vs t0 ctv h4 tk4 ps1 cod1 I1 hcm hcd hcv F1 N1 hap1 hap21 hlt
  walk_at "st"
  try dsimp only
  refine withEq (Builtin.Int.intBits most) fun R hR => ?_
  refine cut1 (T := ?T) ?t ?h
  case h =>
    intro hT
    refine told_lam (fun v news' => (2 ≤ R ∧ R ≤ 16 ∧ most = 2 ^ R - 1) ∧ _) False _ B2 F1 X2 N1 T2 rfl (.head _) (.tail _ (List.mem_append_right _ (.tail _ (List.mem_append_left _ hcm)))) hcd hcv rfl rfl rfl (by decide) ?_ ?_ X T (fun g L₁ L'' h₁ tk B3 F3 N3 X3 T3 => body_prec B3 F3 X3 N3 T3 (.tail _ (.tail _ (.tail _ (List.mem_append_right _ (.tail _ (.head _)))))) d2 hmr.1 (by lia) hR ?_ ?_ ?_) ?_ ?_
    rotate_left 6
    · intro h₀1 h5 tk5 t5 r1 hr st1 B2 F1 N1 hfr1
      obtain ⟨hf, _⟩ | ⟨hno, rfl⟩ := hr
      · exact hf.elim
      have hd2 := hdue
      obtain ⟨r', t', em3, em4, em2, -⟩ | ⟨em1, hys⟩ := hd2
      · have e5 : R = r' := by rw [hR, em2, intBits_pow _ em4 em3]
        exact absurd ⟨by lia, by lia, by rw [e5]; exact em2⟩ hno
      replace FG := hfr1 _ _ ⟨_, .head _, rfl⟩ FG
      have X2 := X.keeps st1
      have T2 := T.keeps st1
      clear hfr1 st1
      walk_at "st"
      rename Fr _ _ _ (fun y => ite _ _ _) => F1
      rename News _ _ _ _ => N1
      refine ne_nil N1 (.tail _ (.tail _ (.head _))) (.head _) ?_ ?_
      · walk_at "un"
      rw [show (!ys.isEmpty) = false by rw [hys]; rfl]
      replace N1 := news_drop N1
      walk_at "st"
      walk1
      rename Fr _ _ _ (fun y => ite _ _ _) => F1
      rename News _ _ _ _ => N1
      replace N1 : News _ _ _ ((_, _) :: (_, o2) :: (_, _) :: (_, _) :: (src, srcO a2 b2 ta2 tb2 n2) :: (180, tabObj ps1) :: (cod1 ++ rest)) := fun q hq => N1 q (.tail _ (bits_back q hq))
      rename Imp _ _ => ia
      refine gtok ?_
      intro tkx
      clear hno em1 hys
      revert N1 F1 ia
      rename Flow → Shared → Prop => Qb
      revert Qb tkx
      rename Heap => hh
      revert hh T2 X2 FG B2 h₀1
      exact hT.out
    · walk_at "rm"
    · walk_at "un"
    · rw [hR]; exact intBits_le hmr.1 hmr.2
    · walk_at "rm"
    · walk_at "un"
    · rintro v h5 tk5 news' ⟨hok, t5, rfl, rfl⟩ F1 N1
      have hd2 := hdue
      obtain ⟨r', t', -, -, em2, hys⟩ | ⟨em1, -⟩ := hd2
      rotate_left
      · exact absurd hok.2.2 (em1 R hok.1 hok.2.1)
      have eR := pow_inj2 em2 hok.2.2
      rw [hys] at N1
      walk_at "st"
      rename Fr _ _ _ (fun y => ite _ _ _) => F1
      rename News _ _ _ _ => N1
      refine ne_nil N1 (.tail _ (.tail _ (.head _))) (.head _) ?_ ?_
      · walk_at "un"
      rw [show (!([Value.int (r' : Int) t'] : List Value).isEmpty) = true from rfl]
      replace N1 := news_drop N1
      walk_at "st"
      · rename (_ ≠ _) => hne
        exact absurd (by rw [eR]; rfl) hne
      walk1
      rename Fr _ _ _ (fun y => ite _ _ _) => F1
      rename News _ _ _ _ => N1
      replace N1 : News _ _ _ ((_, _) :: (_, o2) :: (_, _) :: (_, _) :: (src, srcO a2 b2 ta2 tb2 n2) :: (180, tabObj ps1) :: (cod1 ++ rest)) := fun q hq => N1 q (.tail _ (bits_back q hq))
      rename Imp _ _ => ia
      exact hT.out _ B2 FG X2 T2 _ _ _ F1 ia N1
  · intro g B2 FG X2 T2 hh Qb tkx F1 ia N1
    refine pk ?_
    intro Pk ik
    obtain ⟨hapS, hU4, hU2⟩ := bits_apart (ot := tabObj ps1) hap l0 hap21
    refine up ik ?_
    clear ik
    k_dflt (refine LCg.ListComp_U (F₀ := F1) rfl (by decide) rfl (by decide) rfl ?_)
    walk_at "st"
    rename IsRange _ _ _ _ _ _ _ _ => r1
    rename Fr _ _ _ (fun y => ite _ _ _) => F1
    rename News _ _ _ _ => N1
    refine LCg.CompSrc.range (n := 2) rfl F1 N1 r1 (by decide) (by decide) (by rw [sizeLine_eq]; decide) ?_
    intro gh
    clear F1 N1 r1
    rename News _ _ _ _ => Nx
    clear Nx
    refine LCg.CompRest.succ ?_
    intro v I oI C oC D m₂ h6 tk6 E' hv hC hx F1 N1 off ne
    have ho := LCg.Off3.mem off (src, _) (.tail _ (.tail _ (.tail _ (.tail _ (.head _)))))
    walk_at "st"
    rename News _ _ _ _ => N1
    rename Fr _ _ _ (fun y => ite _ _ _) => F1
    rename (_ < _ ∧ _ < _ ∧ _ ∧ _ ∧ _ ∧ _ ∧ _ ∧ _ ∧ _ ∧ AllLt _ _) => l5
    refine one_spec B2 F1 X2 N1 T2 rfl (.tail (Nat.ne_of_gt l5.2.2.2.2.2.2.2.1) (.tail ho.1.symm (.tail ho.2.1.symm (.tail ho.2.2.symm (.tail e4 (.tail e3 (.tail e2 (.tail e1 (.head hapS))))))))) (.head _) (Nat.ne_of_gt l5.2.2.2.2.2.2.2.1) ha2 ⟨hb3, hb4⟩ (Nat.le_of_ble_eq_true rfl) (Nat.le_of_ble_eq_true rfl) ?_ ?_ ?_
    · walk_at "rm"
    · walk_at "un"
    clear F1 N1
    intro i hi a3 b3 ta3 tb3 n3 h7 tk7 ha3 hb5 hb6 F2 N2
    refine pk ?_
    intro Pk ik
    obtain ⟨w1, tw1, hw1, hw2, hw3⟩ := intV_get (lo := -1) (hi := 65536) (List.all_eq_true.mp (rfl : List.all _ (intV (-1) 65536) = true) _ (List.getElem_mem hi))
    refine up ik ?_
    clear ik
    rw [hw1]
    refine LCg.CompEnd.intro F2 (news_drop N2) ((_, _) :: (_, o2) :: (_, _) :: (_, _) :: (src, srcO a3 b3 ta3 tb3 n3) :: (180, tabObj ps1) :: (cod1 ++ rest)) (fun _ h => h) off trivial ?_
    clear F2 N2 l5 ho off ne hC hx hv
    refine LCg.CompRest.succ ?_
    intro v I oI C oC D m₂ h6 tk6 E' hv hC hx F1 N1 off ne
    have ho := LCg.Off3.mem off (src, _) (.tail _ (.tail _ (.tail _ (.tail _ (.head _)))))
    walk_at "st"
    rename News _ _ _ _ => N1
    rename Fr _ _ _ (fun y => ite _ _ _) => F1
    rename (_ < _ ∧ _ < _ ∧ _ ∧ _ ∧ _ ∧ _ ∧ _ ∧ _ ∧ _ ∧ AllLt _ _) => l5
    refine one_spec B2 F1 X2 N1 T2 rfl (.tail (Nat.ne_of_gt l5.2.2.2.2.2.2.2.1) (.tail ho.1.symm (.tail ho.2.1.symm (.tail ho.2.2.symm (.tail e4 (.tail e3 (.tail e2 (.tail e1 (.head hapS))))))))) (.head _) (Nat.ne_of_gt l5.2.2.2.2.2.2.2.1) ha3 ⟨hb5, hb6⟩ (Nat.le_of_ble_eq_true rfl) (Nat.le_of_ble_eq_true rfl) ?_ ?_ ?_
    · walk_at "rm"
    · walk_at "un"
    clear F1 N1
    intro i hi a4 b4 ta4 tb4 n4 h7 tk7 ha4 hb7 hb8 F2 N2
    refine pk ?_
    intro Pk ik
    obtain ⟨w2, tw2, hw4, hw5, hw6⟩ := intV_get (lo := -1) (hi := 65536) (List.all_eq_true.mp (rfl : List.all _ (intV (-1) 65536) = true) _ (List.getElem_mem hi))
    refine up ik ?_
    clear ik
    rw [hw4]
    refine LCg.CompEnd.intro F2 (news_drop N2) ((_, _) :: (_, o2) :: (_, _) :: (_, _) :: (src, srcO a4 b4 ta4 tb4 n4) :: (180, tabObj ps1) :: (cod1 ++ rest)) (fun _ h => h) off trivial ?_
    clear F2 N2 l5 ho off ne hC hx hv
    refine LCg.CompRest.zero ?_
    unfold LCg.FinE
    intro D hh tkk F1 N1 off1
    walk_at "st"
    rename News _ _ _ _ => N1
    rename Fr _ _ _ (fun y => ite _ _ _) => F1
    replace N1 := news_drop N1
    k_dflt (refine storeX_C F1 N1 rfl (hU4 _ _ _ _ _) d1 ?_)
    clear F1 N1 off1 d1
    intro h8 o1 F1 N1 d1
    replace N1 : News _ _ _ ((_, o1) :: (_, o2) :: (_, _) :: (_, _) :: (src, srcO a4 b4 ta4 tb4 n4) :: (180, tabObj ps1) :: (cod1 ++ rest)) := N1
    walk_at "st"
    k_dflt (refine storeX_C F1 N1 rfl (hU2 _ _ _ _ _) d3 ?_)
    clear F1 N1 d3
    intro h8 o3 F1 N1 d3
    replace N1 : News _ _ _ ((_, o1) :: (_, o2) :: (_, o3) :: (_, _) :: (src, srcO a4 b4 ta4 tb4 n4) :: (180, tabObj ps1) :: (cod1 ++ rest)) := N1
    walk_at "st"
    all_goals (
      rename News _ _ _ _ => N1
      rename Fr _ _ _ (fun y => ite _ _ _) => F1
      have his : ∀ b, b = okSide w1 w2 → b = okSide w1 w2 := fun _ h => h
      first
      | (replace F1 : Fr _ _ _ (fun y => if y = ("is_let" : Str) then some (.bool (decide ((if w2 > w1 then w2 else w1) ≤ 65535))) else _) := F1
         rw [show decide ((if w2 > w1 then w2 else w1) ≤ 65535) = okSide w1 w2 from ok_hi (by assumption)] at F1)
      | (replace F1 : Fr _ _ _ (fun y => if y = ("is_let" : Str) then some (.bool (decide (1 ≤ if w2 < w1 then w2 else w1))) else _) := F1
         rw [show decide (1 ≤ if w2 < w1 then w2 else w1) = okSide w1 w2 from ok_lo (by assumption)] at F1)
      replace N1 : News _ _ _ ([] ++ (180, tabObj ps1) :: (cod1 ++ (_, o1) :: (_, o2) :: (_, o3) :: (_, _) :: (src, srcO a4 b4 ta4 tb4 n4) :: rest)) := fun q hq => N1 q (bits_reord q hq)
      refine lam_make (fr := []) F1 N1 T2 (CH.keeps FG.keep) rfl I1 (bits_again hap1 hap21).1 (bits_again hap1 hap21).2 rfl rfl rfl ?_
      clear F1 N1 hcm hcd hcv hlt hap1 hap21
      intro f c' oc vs t0 ctv h4 tk4 ps2 cod2 I2 hcm hcd hcv F1 N1 hap1 hap21 hlt
      walk_at "st"
      refine told_lam (fun v news' => okSide w1 w2 = true ∧ _) False _ B2 F1 X2 N1 T2 rfl (.head _) (.tail _ (List.mem_append_right _ (.tail _ (List.mem_append_left _ hcm)))) hcd hcv rfl rfl rfl (by decide) ?_ ?_ X T (fun g L₁ L'' h₁ tk B3 F3 N3 X3 T3 => body_sides B3 F3 X3 N3 T3 (.tail _ (.tail _ (List.mem_append_right _ (.head _)))) d1 (.tail _ (.tail _ (List.mem_append_right _ (.tail _ (.tail _ (.head _)))))) d3 (by lia) (by lia) (by lia) (by lia) ?_ ?_) ?_ ?_
      · walk_at "rm"
      · walk_at "un"
      · walk_at "rm"
      · walk_at "un"
      · rintro v h5 tk5 news' ⟨hok2, rfl, rfl⟩ F1 N1
        walk_at "st"
        have hfin := frBack FG F1 N1
        exact ret _ _ _ hfin.1 (fun q hq => hfin.2 q (bits_out q hq))
      · intro h₀1 h5 tk5 t5 r1 hr st1 B2 F1 N1 hfr1
        obtain ⟨hf, _⟩ | ⟨hno, rfl⟩ := hr
        · exact hf.elim
        walk_at "st"
        rw [beq_self_eq_true]
        have hfin := frBack (hfr1 _ _ ⟨_, .head _, rfl⟩ FG) F1 N1
        exact ret _ _ _ hfin.1 (fun q hq => hfin.2 q (bits_out q hq)))
end
section
open PySem PySem.W PyProof.Rows PySem.Calls
set_option maxRecDepth 100000
def stopC (c : UInt8) : Bool := isBl c || c == 35
/-- a stretch of blanks and remarks -/
def GapOk (g : List UInt8) : Prop := (∃ c r, g = c :: r ∧ stopC c = true) ∧ ∀ c r, stopC c = false → skL (g ++ c :: r) = g.length
def WordOk (l : List UInt8) : Prop := l ≠ [] ∧ ∀ c ∈ l, stopC c = false
def TailOk (l : List UInt8) : Prop := l = [] ∨ ∃ c r, l = c :: r ∧ stopC c = true
theorem stop_of {c : UInt8} (h : stopC c = false) : isBl c = false ∧ c ≠ 35 := by
  unfold stopC at h
  rw [Bool.or_eq_false_iff] at h
  exact ⟨h.1, by simpa using h.2⟩
theorem enL_word : ∀ {l r : List UInt8}, (∀ c ∈ l, stopC c = false) → TailOk r → enL (l ++ r) = l.length
  | [], r, _, h => by
    rcases h with rfl | ⟨c, r, rfl, h⟩
    · rfl
    · rw [List.nil_append, enL, if_pos (by unfold stopC at h; simpa using h)]; rfl
  | c :: l, r, h, ht => by
    have hc := stop_of (h c (.head _))
    rw [List.cons_append, enL, if_neg (by simp [hc.1, hc.2]), enL_word (fun c hc => h c (.tail _ hc)) ht]
    simp; lia
theorem word_step {o pre g l post : List UInt8} (ho : o = pre ++ (g ++ (l ++ post))) (hg : GapOk g) (hl : WordOk l) (ht : TailOk post) :
    skF o pre.length = pre.length + g.length ∧ enF o (pre.length + g.length) = pre.length + g.length + l.length ∧ wdF o (pre.length + g.length) (pre.length + g.length + l.length) = l ∧ (pre ++ (g ++ l)).length = pre.length + g.length + l.length ∧ 0 < l.length := by
  subst ho
  have h1 : (pre ++ (g ++ (l ++ post))).drop pre.length = g ++ (l ++ post) := by simp
  have h2 : (pre ++ (g ++ (l ++ post))).drop (pre.length + g.length) = l ++ post := by
    rw [← List.append_assoc, ← List.length_append]; simp
  have hne : 0 < l.length := List.length_pos_iff.mpr hl.1
  refine ⟨?_, ?_, ?_, by simp; lia, hne⟩
  · unfold skF
    rw [h1]
    obtain ⟨c, r, rfl⟩ := List.exists_cons_of_ne_nil hl.1
    rw [List.cons_append, hg.2 c _ (hl.2 c (.head _))]
  · unfold enF
    rw [h2, enL_word hl.2 ht]
  · unfold wdF
    rw [h2, Nat.add_sub_cancel_left]
    simp
theorem tail_end {o : List UInt8} : skF o o.length = o.length ∧ enF o o.length = o.length := by
  unfold skF enF
  simp [skL, enL]
def joinGL : List (List UInt8 × List UInt8) → List UInt8
  | [] => []
  | (g, l) :: r => g ++ (l ++ joinGL r)
theorem joinGL_append : ∀ (x y : List (List UInt8 × List UInt8)), joinGL (x ++ y) = joinGL x ++ joinGL y
  | [], _ => rfl
  | (g, l) :: r, y => by simp [joinGL, joinGL_append r y]
def GLOk (gl : List (List UInt8 × List UInt8)) : Prop := ∀ p ∈ gl, GapOk p.1 ∧ WordOk p.2
theorem tail_join : ∀ {gl : List (List UInt8 × List UInt8)}, GLOk gl → TailOk (joinGL gl)
  | [], _ => .inl rfl
  | (g, l) :: r, h => by
    obtain ⟨⟨⟨c, r', hg, hc⟩, _⟩, _⟩ := h _ (.head _)
    exact .inr ⟨c, r' ++ (l ++ joinGL r), by simp only [joinGL]; simp only at hg; rw [hg]; rfl, hc⟩
theorem join_at {gl : List (List UInt8 × List UInt8)} {j : Nat} {g l : List UInt8} (h : gl[j]? = some (g, l)) : joinGL gl = joinGL (gl.take j) ++ (g ++ (l ++ joinGL (gl.drop (j + 1)))) ∧ joinGL (gl.take (j + 1)) = joinGL (gl.take j) ++ (g ++ l) := by
  obtain ⟨h1, h2⟩ := List.getElem?_eq_some_iff.mp h
  constructor
  · conv => lhs; rw [← List.take_append_drop j gl, List.drop_eq_getElem_cons h1, h2]
    rw [joinGL_append]; rfl
  · rw [List.take_add_one, h, joinGL_append]
    simp [joinGL]
/-- a word of a row or a head: where it is found -/
theorem join_step {gl : List (List UInt8 × List UInt8)} {j p : Nat} {g l : List UInt8} (hok : GLOk gl) (h : gl[j]? = some (g, l)) (hp : p = (joinGL (gl.take j)).length) :
    ∃ b e, skF (joinGL gl) p = b ∧ enF (joinGL gl) b = e ∧ wdF (joinGL gl) b e = l ∧ b < e ∧ p ≤ b ∧ e = (joinGL (gl.take (j + 1))).length ∧ e ≤ (joinGL gl).length ∧ b + l.length = e := by
  obtain ⟨e1, e2⟩ := join_at h
  have hm := hok _ (List.mem_of_getElem? h)
  obtain ⟨s1, s2, s3, s4, s5⟩ := word_step e1 hm.1 hm.2 (tail_join fun p hp => hok p (List.mem_of_mem_drop hp))
  subst hp
  refine ⟨_, _, s1, s2, s3, by lia, by lia, by rw [e2]; exact s4.symm, ?_, rfl⟩
  rw [e1]
  simp; lia
def digV (v : Value) : Bool := match v with | .int k _ => decide (48 ≤ k) && decide (k ≤ 57) | _ => false
theorem digit_stop {c : UInt8} (h : isDig c = true) : stopC c = false := by
  unfold isDig at h
  simp only [Bool.and_eq_true, decide_eq_true_eq] at h
  have hc : ∀ k : UInt8, c = k → 48 ≤ k.toNat ∧ k.toNat ≤ 57 := by rintro k rfl; lia
  unfold stopC isBl
  simp only [Bool.or_eq_false_iff, beq_eq_false_iff_ne]
  refine ⟨⟨⟨⟨⟨⟨?_, ?_⟩, ?_⟩, ?_⟩, ?_⟩, ?_⟩, ?_⟩ <;> (intro e; have := hc _ e; revert this; decide)
def rowGaps : List (List UInt8) := [[32], [10], [9, 13], [35, 32, 55, 10], [35, 10, 11], [32, 35, 57, 32, 57, 35, 10, 32]]
theorem stop_sk {c : UInt8} {r : List UInt8} (h : stopC c = false) : skL (c :: r) = 0 := by
  obtain ⟨h1, h2⟩ := stop_of h
  rw [skL, if_neg h2, h1]; rfl
theorem gap_of {g : List UInt8} (h1 : ∃ c r, g = c :: r ∧ stopC c = true) (h2 : ∀ x, skL x = 0 → skL (g ++ x) = g.length) : GapOk g := ⟨h1, fun c r h => h2 _ (stop_sk h)⟩
theorem rowGaps_ok : ∀ g ∈ rowGaps, GapOk g := by
  intro g hg
  unfold rowGaps at hg
  simp only [List.mem_cons, List.not_mem_nil, or_false] at hg
  rcases hg with rfl | rfl | rfl | rfl | rfl | rfl <;>
    (refine gap_of ⟨_, _, rfl, by decide⟩ fun x hx => ?_; simp [skL, skR, isBl, hx])
end
section
open PySem PySem.W PyProof.Rows PySem.Calls
set_option maxRecDepth 100000
section
variable {prog : Program} {w : World} {A : Around} {E : Value → Shared → Prop} {s : Shared} {env : Env} {h₀ : Heap} {x : Str} {body : List Stmt} {Q : Flow → Shared → Prop} {m₀ : Str → Option Value} {news : List (Addr × Obj)}
theorem loop_H {I : Addr} {fp : List Addr} {n : Nat} {P : Nat → Value → Prop} {St : Nat → Heap → Prop} (J : Nat → (Str → Option Value) → List (Addr × Obj) → Prop)
    (W : Walks prog w A I fp [I] n P St) (hLf : env.locals ∉ fp) (hI : h₀.get? I = none) (hnI : ∀ p ∈ news, p.1 ≠ I) (hst : St 0 s.heap) (hS : ∀ i h, St i h → ∃ o, h.get? I = some o) (F : Fr h₀ env.locals s.heap m₀) (N : News h₀ env.locals s.heap news) (hj : J 0 m₀ news)
    (turn : ∀ i v m₁ nx h tk own, i < n → P i v → J i m₁ nx → (∀ p ∈ nx, p.1 ≠ I) → (∃ io, (I, io) ∈ own) → (∀ p ∈ own, p.1 ∈ fp) → Fr h₀ env.locals h (fun y => if y = x then some v else m₁ y) → News h₀ env.locals h (nx ++ own) →
      wpAny (model prog w) A (execs body env) (PostG h₀ env.locals (J (i + 1)) I own { s with heap := h, toks := tk } Q) E { s with heap := h, toks := tk })
    (done : ∀ m₁ nx h tk, J n m₁ nx → Fr h₀ env.locals h m₁ → News h₀ env.locals h nx → Q .next { s with heap := h, toks := tk }) :
    LoopAtV prog w A h₀ env x body Q E (.ref I) s := by
  refine ⟨I, fp, [I], n, P, St, m₀, news, J, rfl, W, hLf, (fun b hb => by rw [List.mem_singleton.mp hb]; exact hI), (fun p hp hm => hnI p hp (List.mem_singleton.mp hm)), hst, F, N, hj, ?_, ?_⟩
  · rintro i v m₁ nx s₁ own ⟨hh', tk', rfl⟩ hin hP hJ hoff hown hat hfp hSt F₁ N₁
    obtain ⟨io, hio⟩ := hS _ _ hSt
    have hIm : (I, io) ∈ own := hfp I (W.sub I (.head _)) hI io hio
    refine wpAny_mono (turn i v m₁ nx hh' tk' own hin hP hJ (fun p hp e => hoff p hp (List.mem_singleton.mpr e)) ⟨io, hIm⟩ hown F₁ fun p hp => N₁ p ((List.mem_append.mp hp).elim (fun h => List.mem_append.mpr (.inr h)) fun h => List.mem_append.mpr (.inl h))) (fun f s₂ p => ?_) fun _ _ e => e
    have fin : EndG h₀ env.locals (J (i + 1)) I own { s with heap := hh', toks := tk' } s₂ → LoopStepU h₀ env.locals [I] own (J (i + 1)) { s with heap := hh', toks := tk' } .next s₂ := by
      rintro ⟨h', tk, m', led, nx', e, F', N', hn, ho, ha, hm⟩
      exact ⟨rfl, h', tk, m', nx', e, F', fun p hp => N' p ((List.mem_append.mp hp).elim (ho p) (hn p)), fun p hp hq => ha p hp (List.mem_singleton.mp hq), hm⟩
    cases f with
    | ret v => exact .ret p
    | brk => exact .brk p
    | next => exact .next (fin p)
    | cont => exact .cont (fin p)
  · rintro h' tk m' news' F' N' _ hJ
    exact done m' news' h' tk hJ F' N'
theorem iter_rangeH {r : Addr} {a₀ b₀ : Int} {t₀ u₀ v₀ : Tok} {n : Nat} (J : Nat → (Str → Option Value) → List (Addr × Obj) → Prop)
    (hh : A.handled = none) (hr : IsRange s.heap r a₀ b₀ 1 t₀ u₀ v₀) (hsmall : Builtin.Range.small a₀ b₀ 1 = true) (hn : Builtin.Range.rangeSize a₀ b₀ 1 = (n : Int)) (F : Fr h₀ env.locals s.heap m₀) (N : News h₀ env.locals s.heap news) (hj : J 0 m₀ news)
    (turn : ∀ i t m₁ nx h tk I own, i < n → J i m₁ nx → (∀ p ∈ nx, p.1 ≠ I) → (∃ io, (I, io) ∈ own) → (∀ p ∈ own, p.1 = I) → Fr h₀ env.locals h (fun y => if y = x then some (.int (a₀ + (i : Nat)) t) else m₁ y) → News h₀ env.locals h (nx ++ own) →
      wpAny (model prog w) A (execs body env) (PostG h₀ env.locals (J (i + 1)) I own { s with heap := h, toks := tk } Q) E { s with heap := h, toks := tk })
    (done : ∀ m₁ nx h tk, J n m₁ nx → Fr h₀ env.locals h m₁ → News h₀ env.locals h nx → Q .next { s with heap := h, toks := tk }) :
    wpAny (model prog w) A (pyIter (.ref r)) (fun it s₂ => LoopAtV prog w A h₀ env x body Q E it s₂) E s := by
  refine wpAny_pyIter_range hr hsmall ?_
  have W : Walks prog w A s.heap.objs.size [s.heap.objs.size] [s.heap.objs.size] n (fun i v => i < n ∧ ∃ t, v = .int (a₀ + i * 1) t)
      (fun i h => IsRangeIter h s.heap.objs.size (a₀ + (i : Nat) * 1) ((n : Int) - (i : Nat)) 1) := (Walks.range hh _ a₀ 1 n).bound
  refine loop_H J W (fun hm => absurd F.ns.lt ((List.mem_singleton.mp hm) ▸ Nat.lt_irrefl _)) (next_is_new F) (fun p hp e => absurd (Heap.lt_size (N p hp).1) (e ▸ Nat.lt_irrefl _)) (by show IsRangeIter _ _ _ _ _; rw [hn]; simpa using Heap.get?_push_size _ rfl) (fun i h e => ⟨_, e⟩) (F.push _) (fun p hp => ⟨Heap.get?_push_of_some _ (N p hp).1, (N p hp).2⟩) hj ?_ ?_
  · rintro i v m₁ nx h tk own hi ⟨_, t, rfl⟩ hJ ha hio hof F₁ N₁
    rw [Int.mul_one] at F₁
    exact turn i t m₁ nx h tk _ own hi hJ ha hio (fun p hp => List.mem_singleton.mp (hof p hp)) F₁ N₁
  · exact fun m₁ nx h tk hJ F₁ N₁ => done m₁ nx h tk hJ F₁ N₁
theorem iter_listH {l : Addr} {vs : List Value} (J : Nat → (Str → Option Value) → List (Addr × Obj) → Prop)
    (hh : A.handled = none) (hl : s.heap.IsList l vs.toArray) (hlL : l ≠ env.locals) (F : Fr h₀ env.locals s.heap m₀) (N : News h₀ env.locals s.heap news) (hj : J 0 m₀ news)
    (turn : ∀ i v m₁ nx h tk I own, vs[i]? = some v → J i m₁ nx → (∀ p ∈ nx, p.1 ≠ I) → (∃ io, (I, io) ∈ own) → (∀ p ∈ own, p.1 = I ∨ p.1 = l) → Fr h₀ env.locals h (fun y => if y = x then some v else m₁ y) → News h₀ env.locals h (nx ++ own) →
      wpAny (model prog w) A (execs body env) (PostG h₀ env.locals (J (i + 1)) I own { s with heap := h, toks := tk } Q) E { s with heap := h, toks := tk })
    (done : ∀ m₁ nx h tk, J vs.length m₁ nx → Fr h₀ env.locals h m₁ → News h₀ env.locals h nx → Q .next { s with heap := h, toks := tk }) :
    wpAny (model prog w) A (pyIter (.ref l)) (fun it s₂ => LoopAtV prog w A h₀ env x body Q E it s₂) E s := by
  obtain ⟨ol, hol, _⟩ := id hl
  have hne : l ≠ s.heap.objs.size := Nat.ne_of_lt (Heap.lt_size hol)
  refine wpAny_pyIter_list hl ?_
  have W := Walks.list (prog := prog) (w := w) hh s.heap.objs.size l hne vs.toArray
  have hlen : vs.toArray.size = vs.length := by simp
  rw [hlen] at W
  refine loop_H J W (fun hm => ?_) (next_is_new F) (fun p hp e => absurd (Heap.lt_size (N p hp).1) (e ▸ Nat.lt_irrefl _)) ⟨⟨_, Heap.get?_push_size _ rfl, rfl, rfl⟩, hl.at fun o e => Heap.get?_push_of_some _ e⟩ (fun i h e => let ⟨⟨o, h1, _⟩, _⟩ := e; ⟨o, h1⟩) (F.push _) (fun p hp => ⟨Heap.get?_push_of_some _ (N p hp).1, (N p hp).2⟩) hj ?_ ?_
  · rcases List.mem_cons.mp hm with e | hm
    · exact absurd F.ns.lt (e ▸ Nat.lt_irrefl _)
    · exact hlL (List.mem_singleton.mp hm).symm
  · rintro i v m₁ nx h tk own hi hv hJ ha hio hof F₁ N₁
    exact turn i v m₁ nx h tk _ own (by simpa using hv) hJ ha hio (fun p hp => by simpa using hof p hp) F₁ N₁
  · exact fun m₁ nx h tk hJ F₁ N₁ => done m₁ nx h tk hJ F₁ N₁
end
end
local macro_rules | `(tactic| walk_at "n12") => `(tactic| (fail_if_success (with_reducible show wpAny _ _ (subscriptTail _ _ (Value.bytes _ _) (Value.ref _)) _ _ _)))
local macro_rules | `(tactic| walk_at "n13") => `(tactic| (fail_if_success (with_reducible show wpAny _ _ (compareOp .NotEq (Value.int _ _) (Value.int _ _)) _ _ _)))
local macro_rules | `(tactic| walk_at "n14") => `(tactic| (fail_if_success (with_reducible show wpAny _ _ (compareOp .NotEq (Value.bytes _ _) (Value.bytes _ _)) _ _ _)))
local macro_rules | `(tactic| walk_at "n15") => `(tactic| (fail_if_success (with_reducible show PostG _ _ _ _ _ _ _ _ _)))
local macro_rules | `(tactic| walk_at "n16") => `(tactic| (fail_if_success (with_reducible show wpAny _ _ (PySem.call (Value.type "bytes") _) _ _ _)))
local macro_rules | `(tactic| walk_at "n17") => `(tactic| (fail_if_success (with_reducible show wpAny _ _ (pyIter _) _ _ _)))
local macro_rules | `(tactic| walk_at "n18") => `(tactic| (fail_if_success (with_reducible show wpAny _ _ (PySem.call (Value.ref 159) _) _ _ _)))
section
open PySem PySem.W PyProof.Rows PySem.Calls
set_option maxRecDepth 100000
theorem filled22 : Mine.hd.heap_39 = Mine.hd.heap_39 ∧ PySem.Challenge.rw_ok0124_01 = PySem.Challenge.rw_ok0124_01 := by
  k_fill; exact ⟨rfl, rfl⟩
local macro_rules | `(tactic| walk_at "no loop") => `(tactic| ((walk_at "n12"); (walk_at "n13"); (walk_at "n14"); (walk_at "n15"); (walk_at "n16"); (walk_at "n17"); (walk_at "n8"); (walk_at "n0"); (walk_at "n1"); (walk_at "n2"); (walk_at "n9"); (walk_at "n10"); (walk_at "n6"); (walk_at "n18"); (walk_at "n5"); (walk_at "n7"); (walk_at "n11"); (walk_at "n3")))
local macro_rules | `(tactic| walk_at "callWith ref") => `(tactic| walk_at "s4")
local macro_rules | `(tactic| walk_at "callWith ref") => `(tactic| walk_at "s5")
local macro_rules | `(tactic| walk_at "enterCR") => `(tactic| walk_at "s6")
theorem row_upd {x src W I : Nat} {so0 ot0 : Obj} {rest own : List (Addr × Obj)} (l1 : ∀ p ∈ (src, so0) :: (168, ot0) :: rest, p.1 < x) (hap : ∀ q ∈ (168, ot0) :: rest, q.1 ≠ src)
    (hW : x < W ∧ W ≠ x + 1 + 1 + 1 ∧ W ≠ x + 1 + 1) (hI : own = [] ∨ (I ≠ x + 1 + 1 + 1 ∧ I ≠ x + 1 + 1 ∧ I ≠ src)) (hown : ∀ p ∈ own, p.1 = I) :
    (∀ oo oa os so ot wo, UpdF (x + 1 + 1 + 1) oo ((x + 1 + 1 + 1, oo) :: (x + 1 + 1, oa) :: (x + 1, os) :: (src, so) :: (168, ot) :: (W, wo) :: (rest ++ own)) (fun o' => (x + 1 + 1 + 1, o') :: (x + 1 + 1, oa) :: (x + 1, os) :: (src, so) :: (168, ot) :: (W, wo) :: (rest ++ own))) ∧
    (∀ oo oa os so ot wo, UpdF (x + 1 + 1) oa ((x + 1 + 1 + 1, oo) :: (x + 1 + 1, oa) :: (x + 1, os) :: (src, so) :: (168, ot) :: (W, wo) :: (rest ++ own)) (fun o' => (x + 1 + 1 + 1, oo) :: (x + 1 + 1, o') :: (x + 1, os) :: (src, so) :: (168, ot) :: (W, wo) :: (rest ++ own))) ∧
    (∀ ot wo, ∀ q ∈ (168, ot) :: (W, wo) :: (rest ++ own), q.1 ≠ src) := by
  have h9 : 168 < x := l1 _ (.tail _ (.head _))
  have h8 : src < x := l1 _ (.head _)
  refine ⟨fun oo oa os so ot wo => .head ?_, fun oo oa os so ot wo => .tail (Nat.ne_of_gt (by lia)) (.head ?_), fun ot wo q hq => ?_⟩
  · intro q hq
    simp only [List.mem_cons, List.mem_append] at hq
    rcases hq with rfl | rfl | rfl | rfl | rfl | hq | hq
    · exact Nat.ne_of_lt (by dsimp only; lia)
    · exact Nat.ne_of_lt (by dsimp only; lia)
    · exact Nat.ne_of_lt (by dsimp only; lia)
    · exact Nat.ne_of_lt (by dsimp only; lia)
    · exact hW.2.1
    · exact Nat.ne_of_lt (Nat.lt_of_lt_of_le (l1 q (.tail _ (.tail _ hq))) (by lia))
    · rcases hI with rfl | hI
      · cases hq
      · rw [hown q hq]; exact hI.1
  · intro q hq
    simp only [List.mem_cons, List.mem_append] at hq
    rcases hq with rfl | rfl | rfl | rfl | hq | hq
    · exact Nat.ne_of_lt (by dsimp only; lia)
    · exact Nat.ne_of_lt (by dsimp only; lia)
    · exact Nat.ne_of_lt (by dsimp only; lia)
    · exact hW.2.2
    · exact Nat.ne_of_lt (Nat.lt_of_lt_of_le (l1 q (.tail _ (.tail _ hq))) (by lia))
    · rcases hI with rfl | hI
      · cases hq
      · rw [hown q hq]; exact hI.2.1
  · simp only [List.mem_cons, List.mem_append] at hq
    rcases hq with rfl | rfl | hq | hq
    · exact hap (168, ot0) (.head _)
    · exact Nat.ne_of_gt (Nat.lt_trans h8 hW.1)
    · exact hap q (.tail _ hq)
    · rcases hI with rfl | hI
      · cases hq
      · rw [hown q hq]; exact hI.2.2
/-- values that are told by their bytes, item by item -/
inductive ByV : List Value → List (List UInt8) → Prop
  | nil : ByV [] []
  | cons {x : List UInt8} (t : Tok) {vs : List Value} {ls : List (List UInt8)} : ByV vs ls → ByV (.bytes x.toArray t :: vs) (x :: ls)
theorem ByV.len {vs ls} (h : ByV vs ls) : vs.length = ls.length := by
  induction h with
  | nil => rfl
  | cons _ _ ih => simp [ih]
theorem ByV.snoc {vs ls} {x : List UInt8} {t : Tok} (h : ByV vs ls) : ByV (vs ++ [.bytes x.toArray t]) (ls ++ [x]) := by
  induction h with
  | nil => exact .cons t .nil
  | cons u _ ih => exact .cons u ih
theorem ByV.at {vs ls} (h : ByV vs ls) : ∀ {i : Nat} {v : Value}, vs[i]? = some v → ∃ x t, ls[i]? = some x ∧ v = .bytes x.toArray t := by
  induction h with
  | nil => intro i v h; simp at h
  | @cons x t vs ls _ ih =>
    intro i v h
    cases i with
    | zero => simp at h; exact ⟨x, t, rfl, h.symm⟩
    | succ i => simp at h; simpa using ih h
/-- what a turn of the row's second loop finds -/
inductive RowK (x W src : Nat) (oo wo so : Obj) (rest : List (Addr × Obj)) (gl : List (List UInt8 × List UInt8)) (j : Nat) (m₁ : Str → Option Value) (nx : List (Addr × Obj)) : Prop
  | mk (oa : Obj) (ta : Tok) (ps : Array Value) (cod : List (Addr × Obj)) : nx = (168, tabObj ps) :: (cod ++ (x + 1 + 1, oa) :: (x + 1 + 1 + 1, oo) :: (W, wo) :: (src, so) :: rest) → oa.data = .cell (some (.int ((joinGL (gl.take j)).length : Nat) ta)) →
    LamTab "_law_row_right.<locals>.<lambda>" ps cod → (∀ q ∈ cod ++ (x + 1 + 1, oa) :: (x + 1 + 1 + 1, oo) :: (W, wo) :: (src, so) :: rest, q.1 ≠ 168) → (∀ q ∈ cod, ∀ r ∈ (x + 1 + 1, oa) :: (x + 1 + 1 + 1, oo) :: (W, wo) :: (src, so) :: rest, q.1 ≠ r.1) → RowK x W src oo wo so rest gl j m₁ nx
theorem perm_k {p1 p2 p3 s t W : Addr × Obj} {rest : List (Addr × Obj)} : ∀ q ∈ t :: ([] ++ p2 :: p1 :: W :: s :: rest), q ∈ p1 :: p2 :: p3 :: s :: t :: W :: rest := by
  intro q hq
  simp only [List.mem_cons, List.nil_append] at hq ⊢
  rcases hq with h | h | h | h | h | h <;> simp [h]
theorem rowk_first {x W src : Nat} {o1 o2 wo so so0 ot0 : Obj} {rest : List (Addr × Obj)} (l1 : ∀ p ∈ (src, so0) :: (168, ot0) :: rest, p.1 < x) (hap : ∀ q ∈ (168, ot0) :: rest, q.1 ≠ src) (hr : ∀ q ∈ rest, q.1 ≠ 168) (hW : x < W) :
    ∀ q ∈ [] ++ (x + 1 + 1, o1) :: (x + 1 + 1 + 1, o2) :: (W, wo) :: (src, so) :: rest, q.1 ≠ 168 := by
  have h9 : 168 < x := l1 _ (.tail _ (.head _))
  intro q hq
  simp only [List.nil_append, List.mem_cons] at hq
  rcases hq with rfl | rfl | rfl | rfl | hq
  · exact Nat.ne_of_gt (by dsimp only; lia)
  · exact Nat.ne_of_gt (by dsimp only; lia)
  · exact Nat.ne_of_gt (by dsimp only; lia)
  · exact (hap (168, ot0) (.head _)).symm
  · exact hr q hq
theorem perm_t {t f a1 a2 T : Addr × Obj} {cod R : List (Addr × Obj)} : ∀ q ∈ t :: a1 :: a2 :: T :: (cod ++ a1 :: a2 :: R), q ∈ t :: f :: ([] ++ T :: (cod ++ a1 :: a2 :: R)) := by
  intro q hq
  simp only [List.mem_cons, List.nil_append, List.mem_append] at hq ⊢
  rcases hq with h | h | h | h | h | h | h | h <;> simp [h]
theorem perm_u {D t a1 a2 T : Addr × Obj} {cod R : List (Addr × Obj)} : ∀ q ∈ a1 :: T :: (cod ++ a2 :: R), q ∈ D :: t :: a1 :: a2 :: T :: (cod ++ a1 :: a2 :: R) := by
  intro q hq
  simp only [List.mem_cons, List.mem_append] at hq ⊢
  rcases hq with h | h | h | h | h <;> simp [h]
theorem rowk_upd {x W src I : Nat} {o1 o2 o2' wo so so' so0 ot ot0 : Obj} {cod rest own : List (Addr × Obj)} (l1 : ∀ p ∈ (src, so0) :: (168, ot0) :: rest, p.1 < x) (hW : x < W ∧ W ≠ x + 1 + 1 + 1 ∧ W ≠ x + 1 + 1)
    (hB : ∀ q ∈ [] ++ (cod ++ (x + 1 + 1, o1) :: (x + 1 + 1 + 1, o2) :: (W, wo) :: (src, so) :: (rest ++ own)), q.1 ≠ 168) (hA : ∀ q ∈ cod, ∀ r ∈ (x + 1 + 1, o1) :: (x + 1 + 1 + 1, o2) :: (W, wo) :: (src, so) :: (rest ++ own), q.1 ≠ r.1)
    (hI : x + 1 + 1 ≠ I) (hown : ∀ p ∈ own, p.1 = I ∨ p.1 = W) : ∀ q ∈ (168, ot) :: (cod ++ (x + 1 + 1 + 1, o2') :: (W, wo) :: (src, so') :: (rest ++ own)), q.1 ≠ x + 1 + 1 := by
  have h9 : 168 < x := l1 _ (.tail _ (.head _))
  have h8 : src < x := l1 _ (.head _)
  intro q hq
  simp only [List.mem_cons, List.mem_append] at hq
  rcases hq with rfl | hq | rfl | rfl | rfl | hq | hq
  · exact Nat.ne_of_lt (by dsimp only; lia)
  · exact hA q hq _ (.head _)
  · exact Nat.ne_of_gt (by dsimp only; lia)
  · exact hW.2.2
  · exact Nat.ne_of_lt (by dsimp only; lia)
  · exact Nat.ne_of_lt (Nat.lt_of_lt_of_le (l1 q (.tail _ (.tail _ hq))) (by lia))
  · rcases hown q hq with e | e
    · rw [e]; exact hI.symm
    · rw [e]; exact hW.2.2
theorem rowk_end {a1 a2 W src I : Addr} {o1 q1 o2 wo so ot ot2 io : Obj} {cod cod1 rest own : List (Addr × Obj)}
    (hB : ∀ q ∈ [] ++ (cod1 ++ (a1, o1) :: (a2, o2) :: (W, wo) :: (src, so) :: (rest ++ own)), q.1 ≠ 168) (hA : ∀ q ∈ cod1, ∀ r ∈ (a1, o1) :: (a2, o2) :: (W, wo) :: (src, so) :: (rest ++ own), q.1 ≠ r.1)
    (hI : ∀ p ∈ (168, ot) :: (cod ++ (a1, o1) :: (a2, o2) :: (W, wo) :: (src, so) :: rest), p.1 ≠ I) (hio : (I, io) ∈ own) :
    (∀ q ∈ (168, ot2) :: (cod1 ++ (a1, q1) :: (a2, o2) :: (W, wo) :: (src, so) :: rest), q ∈ (a1, q1) :: (168, ot2) :: (cod1 ++ (a2, o2) :: (W, wo) :: (src, so) :: (rest ++ own))) ∧
    (∀ q ∈ own, q ∈ (a1, q1) :: (168, ot2) :: (cod1 ++ (a2, o2) :: (W, wo) :: (src, so) :: (rest ++ own))) ∧
    (∀ q ∈ (168, ot2) :: (cod1 ++ (a1, q1) :: (a2, o2) :: (W, wo) :: (src, so) :: rest), q.1 ≠ I) ∧
    (∀ q ∈ cod1 ++ (a1, q1) :: (a2, o2) :: (W, wo) :: (src, so) :: rest, q.1 ≠ 168) ∧ (∀ q ∈ cod1, ∀ r ∈ (a1, q1) :: (a2, o2) :: (W, wo) :: (src, so) :: rest, q.1 ≠ r.1) := by
  refine ⟨fun q hq => ?_, fun q hq => by simp [hq], fun q hq => ?_, fun q hq => ?_, fun q hq r hr => ?_⟩
  · simp only [List.mem_cons, List.mem_append] at hq ⊢
    rcases hq with h | h | h | h | h | h | h <;> simp [h]
  · simp only [List.mem_cons, List.mem_append] at hq
    rcases hq with rfl | h | rfl | rfl | rfl | rfl | h
    · exact hI (168, ot) (.head _)
    · exact hA q h (I, io) (by simp [hio])
    · exact hI (a1, o1) (by simp)
    · exact hI (a2, o2) (by simp)
    · exact hI (W, wo) (by simp)
    · exact hI (src, so) (by simp)
    · exact hI q (by simp [h])
  · simp only [List.mem_cons, List.mem_append] at hq
    rcases hq with h | rfl | rfl | rfl | rfl | h
    · exact hB q (by simp [h])
    · exact hB (a1, o1) (by simp)
    · exact hB (a2, o2) (by simp)
    · exact hB (W, wo) (by simp)
    · exact hB (src, so) (by simp)
    · exact hB q (by simp [h])
  · simp only [List.mem_cons] at hr
    rcases hr with rfl | rfl | rfl | rfl | h
    · exact hA q hq (a1, o1) (by simp)
    · exact hA q hq (a2, o2) (by simp)
    · exact hA q hq (W, wo) (by simp)
    · exact hA q hq (src, so) (by simp)
    · exact hA q hq r (by simp [h])
theorem cut_back {o l : List UInt8} {b e : Nat} {x : List UInt8} (hx : x = o.take e) (hw : wdF o b e = l) (heo : e ≤ o.length) (hble : b + l.length = e) : (x.drop (x.length - l.length)).take (x.length - (x.length - l.length)) = l := by
  have hlen : x.length = e := by rw [hx, List.length_take]; lia
  rw [hlen, show e - l.length = b by lia, hx, List.drop_take]
  unfold wdF at hw
  rw [hw]
  apply List.take_of_length_le
  lia
theorem perm_r {T p1 p2 W s : Addr × Obj} {cod rest own : List (Addr × Obj)} : ∀ q ∈ s :: T :: rest, q ∈ ([] ++ T :: (cod ++ p1 :: p2 :: W :: s :: (rest ++ own))) := by
  intro q hq
  simp only [List.mem_cons, List.nil_append, List.mem_append] at hq ⊢
  rcases hq with h | h | h <;> simp [h]
theorem perm_v {f a1 a2 T : Addr × Obj} {cod R : List (Addr × Obj)} : ∀ q ∈ f :: a1 :: a2 :: T :: (cod ++ a1 :: a2 :: R), q ∈ f :: ([] ++ T :: (cod ++ a1 :: a2 :: R)) := by
  intro q hq
  simp only [List.mem_cons, List.nil_append, List.mem_append] at hq ⊢
  rcases hq with h | h | h | h | h | h | h | h <;> simp [h]
theorem perm_w {f a1 a2 T W s : Addr × Obj} {cod R : List (Addr × Obj)} : ∀ q ∈ s :: T :: R, q ∈ f :: a1 :: a2 :: T :: (cod ++ a1 :: a2 :: W :: s :: R) := by
  intro q hq
  simp only [List.mem_cons, List.mem_append] at hq ⊢
  rcases hq with h | h | h <;> simp [h]
theorem rowk_own {a1 a2 W src I : Addr} {o1 o2 wo so ot : Obj} {cod rest own : List (Addr × Obj)}
    (hB : ∀ q ∈ cod ++ (a1, o1) :: (a2, o2) :: (W, wo) :: (src, so) :: rest, q.1 ≠ 168) (hA : ∀ q ∈ cod, ∀ r ∈ (a1, o1) :: (a2, o2) :: (W, wo) :: (src, so) :: rest, q.1 ≠ r.1)
    (hI : ∀ p ∈ (168, ot) :: (cod ++ (a1, o1) :: (a2, o2) :: (W, wo) :: (src, so) :: rest), p.1 ≠ I) (hown : ∀ p ∈ own, p.1 = I ∨ p.1 = W) :
    (∀ q ∈ [] ++ (cod ++ (a1, o1) :: (a2, o2) :: (W, wo) :: (src, so) :: (rest ++ own)), q.1 ≠ 168) ∧ (∀ q ∈ cod, ∀ r ∈ (a1, o1) :: (a2, o2) :: (W, wo) :: (src, so) :: (rest ++ own), q.1 ≠ r.1) := by
  constructor
  · intro q hq
    simp only [List.nil_append, List.mem_append, List.mem_cons] at hq
    rcases hq with h | h | h | h | h | h | h
    · exact hB q (by simp [h])
    · exact hB q (by simp [h])
    · exact hB q (by simp [h])
    · exact hB q (by simp [h])
    · exact hB q (by simp [h])
    · exact hB q (by simp [h])
    · rcases hown q h with e | e
      · rw [e]; exact (hI (168, ot) (.head _)).symm
      · rw [e]; exact hB (W, wo) (by simp)
  · intro q hq r hr
    simp only [List.mem_append, List.mem_cons] at hr
    rcases hr with h | h | h | h | h | h
    · exact hA q hq r (by simp [h])
    · exact hA q hq r (by simp [h])
    · exact hA q hq r (by simp [h])
    · exact hA q hq r (by simp [h])
    · exact hA q hq r (by simp [h])
    · rcases hown r h with e | e
      · rw [e]; exact hI q (by simp [hq])
      · rw [e]; exact hA q hq (W, wo) (by simp)
/-- what a turn of the row's first loop finds -/
inductive RowJ (x src : Nat) (rest : List (Addr × Obj)) (os : Obj) (j : Nat) (m₁ : Str → Option Value) (nx : List (Addr × Obj)) : Prop
  | mk (gl : List (List UInt8 × List UInt8)) (oo oa : Obj) (to ta0 : Tok) (a b : Int) (ta tb : Tok) (n : Nat) (W : Addr) (ws : List Value) (nw : Nat) :
    nx = (x + 1 + 1 + 1, oo) :: (x + 1 + 1, oa) :: (x + 1, os) :: (src, srcO a b ta tb n) :: (168, tabObj #[]) :: (W, lstO ws nw) :: rest →
    gl.length = j → (∀ p ∈ gl, p.1 ∈ rowGaps ∧ p.2.all isDig = true ∧ 1 ≤ p.2.length ∧ p.2.length ≤ 10) → oo.data = .cell (some (.bytes (joinGL gl).toArray to)) → oa.data = .cell (some (.int 0 ta0)) →
    0 ≤ a → 0 ≤ b → b < 2147483647 → (x < W ∧ W ≠ x + 1 + 1 + 1 ∧ W ≠ x + 1 + 1) → ByV ws (gl.map (·.2)) → m₁ "words" = some (.ref W) → RowJ x src rest os j m₁ nx
theorem digs_ints : ∀ {ys : List Value}, ys.all digV = true → ∃ ns, IntsAre ys ns ∧ (∀ n ∈ ns, 48 ≤ n ∧ n ≤ 57) ∧ ns.length = ys.length
  | [], _ => ⟨[], .nil, (fun _ h => nomatch h), rfl⟩
  | v :: r, h => by
    rw [List.all_cons, Bool.and_eq_true] at h
    obtain ⟨ns, h1, h2, h3⟩ := digs_ints h.2
    have hv := h.1
    unfold digV at hv
    split at hv
    · rename_i k t
      simp only [Bool.and_eq_true, decide_eq_true_eq] at hv
      exact ⟨k :: ns, .cons k t h1, fun n hn => (List.mem_cons.mp hn).elim (fun e => e ▸ hv) (h2 n), by simp [h3]⟩
    · cases hv
theorem row_digs {ns : List Int} (h : ∀ n ∈ ns, 48 ≤ n ∧ n ≤ 57) : (ns.map fun n => n.toNat.toUInt8).all isDig = true := by
  rw [List.all_eq_true]
  intro c hc
  obtain ⟨n, hn, rfl⟩ := List.mem_map.mp hc
  have := h n hn
  unfold isDig
  have e : (n.toNat.toUInt8.toNat : Int) = n := by simp; lia
  rw [e]; simp; lia
def gapV (v : Value) : Bool := match v with | .bytes g _ => rowGaps.contains g.toList | _ => false
theorem gapV_get {v : Value} (h : gapV v = true) : ∃ (g : List UInt8) (t : Tok), v = .bytes g.toArray t ∧ g ∈ rowGaps := by
  unfold gapV at h
  split at h
  · rename_i g t
    exact ⟨g.toList, t, by simp, by simpa using h⟩
  · cases h
theorem join_len : ∀ {gl : List (List UInt8 × List UInt8)}, (∀ p ∈ gl, p.1 ∈ rowGaps ∧ p.2.all isDig = true ∧ 1 ≤ p.2.length ∧ p.2.length ≤ 10) → (joinGL gl).length ≤ 18 * gl.length
  | [], _ => Nat.le_refl _
  | (g, l) :: r, h => by
    have h1 := join_len (gl := r) fun p hp => h p (.tail _ hp)
    obtain ⟨h2, -, -, h3⟩ := h _ (.head _)
    have h4 : g.length ≤ 8 := by
      have h5 : ∀ g ∈ rowGaps, g.length ≤ 8 := by decide
      exact h5 g h2
    simp only [joinGL, List.length_append, List.length_cons]
    simp only at h3
    lia
theorem gap_len {g : List UInt8} (h : g ∈ rowGaps) : g.length ≤ 8 := (by decide : ∀ g ∈ rowGaps, g.length ≤ 8) g h
theorem add_listsW {prog : Program} {w : World} {A : Around} {E : Value → Shared → Prop} {s : Shared} {h₀ : Heap} {L l b : Addr} {m : Str → Option Value} {news : List (Addr × Obj)} {vs us : List Value} {n k : Nat} {Q : Value → Shared → Prop}
    (F : Fr h₀ L s.heap m) (N : News h₀ L s.heap news) (h1 : (l, lstO vs n) ∈ news) (h2 : (b, lstO us k) ∈ news) (hsz : vs.length + us.length < 10000)
    (h : ∀ W2 c h3, Fr h₀ L h3 m → News h₀ L h3 ((W2, lstO (vs ++ us) c) :: news) → (∀ q ∈ news, q.1 < W2) → Q (.ref W2) { s with heap := h3 }) : wpAny (model prog w) A (binaryOp .Add (.ref l) (.ref b)) Q E s :=
  add_lists F N (N.isList h1) (N.isList h2) (fun h' F' N' => h _ _ _ F' N' fun q hq => Heap.lt_size (N q hq).1) (by rw [sizeLine_eq]; lia)
theorem perm9 {p1 p2 p3 s t W W2 l D : Addr × Obj} {R : List (Addr × Obj)} : ∀ q ∈ p1 :: p2 :: p3 :: s :: t :: W2 :: R, q ∈ D :: W2 :: l :: p1 :: p2 :: p3 :: s :: t :: W :: R := by
  intro q hq
  simp only [List.mem_cons] at hq ⊢
  rcases hq with h | h | h | h | h | h | h <;> simp [h]
theorem row_ne {a1 a2 a3 a4 a5 W W2 I : Addr} {o1 o2 o3 o4 o5 wo q1 q2 q3 q4 q5 wo2 : Obj} {rest : List (Addr × Obj)} (h : ∀ p ∈ (a1, o1) :: (a2, o2) :: (a3, o3) :: (a4, o4) :: (a5, o5) :: (W, wo) :: rest, p.1 ≠ I) (hW : W2 ≠ I) :
    ∀ p ∈ (a1, q1) :: (a2, q2) :: (a3, q3) :: (a4, q4) :: (a5, q5) :: (W2, wo2) :: rest, p.1 ≠ I := by
  intro p hp
  simp only [List.mem_cons] at hp
  rcases hp with rfl | rfl | rfl | rfl | rfl | rfl | hp
  · exact h (a1, o1) (by simp)
  · exact h (a2, o2) (by simp)
  · exact h (a3, o3) (by simp)
  · exact h (a4, o4) (by simp)
  · exact h (a5, o5) (by simp)
  · exact hW
  · exact h p (by simp [hp])
theorem row_sub {p1 p2 p3 s t W : Addr × Obj} {rest own : List (Addr × Obj)} : (∀ q ∈ p1 :: p2 :: p3 :: s :: t :: W :: rest, q ∈ p1 :: p2 :: p3 :: s :: t :: W :: (rest ++ own)) ∧ ∀ q ∈ own, q ∈ p1 :: p2 :: p3 :: s :: t :: W :: (rest ++ own) := by
  refine ⟨fun q hq => ?_, fun q hq => by simp [hq]⟩
  simp only [List.mem_cons] at hq
  rcases hq with h | h | h | h | h | h | h <;> simp [h]
theorem lt_W {x W : Nat} {P : Prop} (h : x + 1 + 1 + 1 < W ∧ P) : x < W ∧ W ≠ x + 1 + 1 + 1 ∧ W ≠ x + 1 + 1 := ⟨by lia, by lia, by lia⟩
theorem perm7 {p1 p2 p3 s t W D : Addr × Obj} {rest : List (Addr × Obj)} : ∀ q ∈ p1 :: p2 :: p3 :: s :: t :: W :: rest, q ∈ D :: W :: p1 :: p2 :: p3 :: s :: t :: rest := by
  intro q hq
  simp only [List.mem_cons] at hq ⊢
  rcases hq with h | h | h | h | h | h | h <;> simp [h]
set_option maxHeartbeats 8000000 in
theorem row_spec {prog : Program} {w : World} {p : Program} {loose : List Str} {mean : ExcName → Option Value} {mg mb : Str → Option Value} {dp un : Nat} {gd : Option (List Code)} {cn : Str} {cs : Scope} {fa : Addr} {ccd : Value} {cl : List (Str × Addr)} {A₀ : Around} {base : Heap} {L : Addr} {m : Str → Option Value} {s : Shared} {Q E : Value → Shared → Prop}
    {rest : List (Addr × Obj)} {src : Addr} {a b : Int} {ta tb : Tok} {n : Nat}
    (B : Below A₀ base [] base) (F : Fr base L s.heap m) (X : (Mine.hd.heap_39 w.params).In base) (N : News base L s.heap ((src, srcO a b ta tb n) :: (168, tabObj #[]) :: rest)) (T : Top p loose mean mg mb base) (hk : cs.kind = .function)
    (C : CodeHd base 170 168) (hap : ∀ q ∈ (168, tabObj #[]) :: rest, q.1 ≠ src) (hr168 : ∀ q ∈ rest, q.1 ≠ 168) (ha : 0 ≤ a) (hb : 0 ≤ b ∧ b < 2147483647) (hd : dp + 20 < recursionLimit) (hu : un + 300 < cLine)
    (ret : ∀ a' b' ta' tb' n' ps' h' tk', 0 ≤ a' → 0 ≤ b' → b' < 2147483647 → Fr base L h' m → News base L h' ((src, srcO a' b' ta' tb' n') :: (168, tabObj ps') :: rest) → Q (.bool true) { s with heap := h', toks := tk' }) :
    wpAny (model prog w) (ktrTop dp un gd cn cs L fa ccd cl []) (call (.ref 171) [.ref src]) Q E s := by
  refine wpAny_call ?_
  k_dflt (walk_at "enterCR")
  refine noE ?_
  clear F N
  rename Fr _ _ _ (bindL _ _ _) => F1
  replace F1 : Fr _ _ _ (fun _ => none) := F1
  rename Frag.In _ _ => X2
  rename Below _ _ _ _ => B2
  rename Top _ _ _ _ _ _ => T2
  rename Fr base L _ m => FG
  rename News _ _ _ _ => N1
  rename (∀ p ∈ _, Prod.fst p < _) => l1
  rename (Obj.data _ = _) => d3
  revert d3
  rename (Obj.data _ = _) => d2
  revert d2
  rename (Obj.data _ = _) => d1
  revert d1
  intro d1 d2 d3
  replace d1 : _ = Data.cell none := d1
  replace d2 : _ = Data.cell none := d2
  replace d3 : _ = Data.cell (some (.ref src)) := d3
  have l0 := l1
  have CH := C
  have l3 := l1_swap l1
  refine pk ?_
  intro Pk ik
  obtain ⟨e1, e2, e3, e4⟩ := cell_ne (l1 _ (.head _))
  refine up ik ?_
  clear ik
  walk_at "st"
  rename Fr _ _ _ (fun _ => none) => F1
  rename News _ _ _ _ => N1
  rename (_ < _ ∧ _ ∧ _ ∧ _ ∧ _ ∧ _ ∧ AllLt _ _) => l2
  clear l2
  rename (_ < _ ∧ _ ∧ _ ∧ _ ∧ _ ∧ AllLt _ _) => l2
  replace N1 := fun q hq => N1 q (perm7 q hq)
  have hW := lt_W l2
  have hwl : W.listOf #[] 0 = lstO [] 0 := rfl
  refine pk ?_
  intro Pk ik
  obtain ⟨hU3, hU2, hapS⟩ := row_upd (own := []) l0 hap hW (.inl rfl) (fun _ h => nomatch h) (I := 0)
  refine up ik ?_
  clear ik
  simp only [List.append_nil] at hU3 hU2 hapS
  k_dflt (refine storeX_C F1 N1 rfl (hU3 _ _ _ _ _ _) d1 ?_)
  clear F1 N1 d1
  intro h8 o1 F1 N1 d1
  replace N1 : News _ _ _ ((_, o1) :: (_, _) :: (_, _) :: (src, srcO a b ta tb n) :: (168, tabObj #[]) :: (_, _) :: rest) := N1
  walk_at "st"
  rename Fr _ _ _ (fun y => ite _ _ _) => F1
  rename News _ _ _ _ => N1
  k_dflt (refine storeX_C F1 N1 rfl (hU2 _ _ _ _ _ _) d2 ?_)
  clear F1 N1 d2
  intro h9 o2 F1 N1 d2
  replace N1 : News _ _ _ ((_, o1) :: (_, o2) :: (_, _) :: (src, srcO a b ta tb n) :: (168, tabObj #[]) :: (_, _) :: rest) := N1
  walk_at "st"
  rename Fr _ _ _ (fun y => ite _ _ _) => F1
  rename News _ _ _ _ => N1
  refine For_F F1 rfl rfl ?_
  walk_at "st"
  refine take_spec B2 F1 X2 N1 T2 rfl (.tail e3 (.tail e2 (.tail e1 (.head (hapS _ _))))) ha hb (by decide) (by decide) ?_ ?_ ?_
  · walk_at "rm"
  · walk_at "un"
  clear F1 N1
  intro d a1 b1 ta1 tb1 t1 n1 h5 tk5 hd0 hd1 ha1 hb1 hb2 F1 N1
  replace N1 : News _ _ _ ((_, o1) :: (_, o2) :: (_, _) :: (src, srcO a1 b1 ta1 tb1 n1) :: (168, tabObj #[]) :: (_, _) :: rest) := N1
  walk_at "st"
  rename Fr _ _ _ (fun y => ite _ _ _) => F1
  rename News _ _ _ _ => N1
  rename IsRange _ _ _ _ _ _ _ _ => r1
  obtain ⟨k0, hk0⟩ : ∃ k : Nat, d = (k : Int) := ⟨d.toNat, by lia⟩
  subst hk0
  refine iter_rangeH (n := 1 + k0) (RowJ _ src rest _) rfl r1 (rsm (by lia) (by lia) (by lia)) (by rw [rsz (by lia)]; lia) F1 N1 ⟨[], o1, o2, _, _, a1, b1, ta1, tb1, n1, _, [], _, rfl, rfl, (fun _ h => nomatch h), d1, d2, ha1, hb1, hb2, hW, .nil, rfl⟩ ?_ ?_
  · clear F1 N1 r1 d1 d2 ha1 hb1 hb2
    rintro j t m₁ nx h1 tk1 I own hj ⟨gl, oo, oa, to, ta0, a2, b2, ta2, tb2, n2, W, ws, nw, rfl, hgl, hgo, d1, d2, ha2, hb3, hb4, hW, hws, hm1⟩ hI hio hown F1 N1
    obtain ⟨u, rfl⟩ := pin1 hm1
    clear hm1
    refine pk ?_
    intro Pk ik
    obtain ⟨hU3, hU2, hapS⟩ := row_upd (own := own) (I := I) l0 hap hW (.inr ⟨(hI _ (.head _)).symm, (hI _ (.tail _ (.head _))).symm, (hI _ (.tail _ (.tail _ (.tail _ (.head _))))).symm⟩) hown
    refine up ik ?_
    clear ik
    replace N1 : News _ _ _ ((_, oo) :: (_, oa) :: (_, _) :: (src, srcO a2 b2 ta2 tb2 n2) :: (168, tabObj #[]) :: (W, lstO ws nw) :: (rest ++ own)) := N1
    walk_at "st"
    refine take_spec B2 F1 X2 N1 T2 rfl (.tail e3 (.tail e2 (.tail e1 (.head (hapS _ _))))) ha2 ⟨hb3, hb4⟩ (by decide) (by decide) ?_ ?_ ?_
    · walk_at "rm"
    · walk_at "un"
    clear F1 N1 ha2 hb3 hb4
    intro d a3 b3 ta3 tb3 t3 n3 h5 tk5 hd0 hd1 ha3 hb5 hb6 F1 N1
    replace N1 : News _ _ _ ((_, oo) :: (_, oa) :: (_, _) :: (src, srcO a3 b3 ta3 tb3 n3) :: (168, tabObj #[]) :: (W, lstO ws nw) :: (rest ++ own)) := N1
    walk_at "st"
    rename Fr _ _ _ (fun y => ite _ _ _) => F1
    rename News _ _ _ _ => N1
    k_dflt (refine LCg.ListComp_U (F₀ := F1) rfl (by decide) rfl (by decide) rfl ?_)
    walk_at "st"
    rename IsRange _ _ _ _ _ _ _ _ => r1
    rename Fr _ _ _ (fun y => ite _ _ _) => F1
    rename News _ _ _ _ => N1
    obtain ⟨kk, hkk⟩ : ∃ k : Nat, 1 + d = (k : Int) := ⟨(1 + d).toNat, by lia⟩
    refine LCg.CompSrc.range (n := kk) rfl F1 N1 r1 (rsm (by lia) (by lia) (by lia)) (by rw [rsz (by lia)]; lia) (by rw [sizeLine_eq]; lia) ?_
    intro gh
    refine withEq (0 : Nat) fun i0 hi0 => ?_
    refine withEq ([] : List Value) fun ys hy => ?_
    have hkk1 : 1 ≤ kk ∧ kk ≤ 10 := by lia
    refine withEq kk fun kq hkq => ?_
    have hys : ys.length + kk = kq := by rw [hy, hkq]; simp
    rw [← hkq] at hkk1
    have hin : ys.all digV = true := by rw [hy]; rfl
    have hab : 0 ≤ a3 ∧ 0 ≤ b3 ∧ b3 < 2147483647 := ⟨ha3, hb5, hb6⟩
    refine rest_gen hi0 hy ?_
    clear F1 N1 r1 ha3 hb5 hb6 hi0 hy hkk hkq
    rename News _ _ _ _ => Nx
    clear Nx
    induction kk generalizing ys i0 a3 b3 ta3 tb3 n3 with
    | zero =>
      refine LCg.CompRest.zero ?_
      unfold LCg.FinE
      intro D hh tkk F1 N1 off1
      walk_at "st"
      refine pk ?_
      intro Pk ik
      obtain ⟨ns, hns, hr, hlen⟩ := digs_ints hin
      refine up ik ?_
      clear ik
      refine bytes_K F1 N1 (N1.isList (.head _)) hns (fun n hn => by have := hr n hn; lia) (by rw [sizeLine_eq]; lia) rfl ?_
      clear F1 N1
      intro h8 t8 k8 F1 N1 _
      replace N1 := news_drop N1
      have hlt := row_digs hr
      have hll : (ns.map fun n => n.toNat.toUInt8).length = kq := by rw [List.length_map]; lia
      generalize (ns.map fun n => n.toNat.toUInt8) = lw at *
      clear off1 hns hr hlen hin hys
      walk_at "st"
      rename Fr _ _ _ (fun y => ite _ _ _) => F1
      rename News _ _ _ _ => N1
      rename (_ < _ ∧ _ ∧ _ ∧ _ ∧ _ ∧ _ ∧ AllLt _ _) => l5
      refine one_spec B2 F1 X2 N1 T2 rfl (.tail (Nat.ne_of_gt l5.2.2.2.1) (.tail e3 (.tail e2 (.tail e1 (.head (hapS _ _)))))) (.head _) (Nat.ne_of_gt l5.2.2.2.1) hab.1 hab.2 (Nat.le_of_ble_eq_true rfl) (Nat.le_of_ble_eq_true rfl) ?_ ?_ ?_
      · walk_at "rm"
      · walk_at "un"
      clear F1 N1
      intro i hi a5 b5 ta5 tb5 n5 h9 tk9 ha5 hb7 hb8 F1 N1
      refine pk ?_
      intro Pk ik
      obtain ⟨gg, tgg, hgv, hgm⟩ := gapV_get (List.all_eq_true.mp (rfl : List.all _ gapV = true) _ (List.getElem_mem hi))
      refine up ik ?_
      clear ik
      rw [hgv]
      replace N1 := news_drop N1
      replace N1 : News _ _ _ ((_, oo) :: (_, oa) :: (_, _) :: (src, srcO a5 b5 ta5 tb5 n5) :: (168, tabObj #[]) :: (W, lstO ws nw) :: (rest ++ own)) := N1
      clear hgv hi l5
      have hjl := join_len hgo
      have hgl8 := gap_len hgm
      walk_at "st"
      refine bytes_add_K (d := joinGL gl ++ gg) (by simp only [List.size_toArray]; lia) rfl (fun t' k => ?_)
      walk_at "st"
      refine bytes_add_K (d := joinGL gl ++ gg ++ lw) (by simp only [List.size_toArray, List.length_append]; lia) rfl (fun t' k => ?_)
      walk_at "st"
      rename Fr _ _ _ (fun y => ite _ _ _) => F1
      rename News _ _ _ _ => N1
      have hwl := hws.len
      rw [List.length_map] at hwl
      refine add_listsW F1 N1 (.tail _ (.tail _ (.tail _ (.tail _ (.tail _ (.tail _ (.head _))))))) (.head _) (by simp only [List.length_cons, List.length_nil]; lia) ?_
      clear F1 N1
      intro W2 c3 h3 F1 N1 hlt2
      have hW2 := lt_W (P := True) ⟨hlt2 _ (.tail _ (.head _)), trivial⟩
      walk_at "st"
      rename Fr _ _ _ (fun y => ite _ _ _) => F1
      rename News _ _ _ _ => N1
      replace N1 := fun q hq => N1 q (perm9 q hq)
      refine pk ?_
      intro Pk ik
      obtain ⟨hU3', -, -⟩ := row_upd (own := own) (I := I) l0 hap hW2 (.inr ⟨(hI _ (.head _)).symm, (hI _ (.tail _ (.head _))).symm, (hI _ (.tail _ (.tail _ (.tail _ (.head _))))).symm⟩) hown
      refine up ik ?_
      clear ik
      k_dflt (refine storeX_C F1 N1 rfl (hU3' _ _ _ _ _ _) d1 ?_)
      clear F1 N1 d1
      intro h8 oo2 F1 N1 d1
      walk_at "st"
      rename Fr _ _ _ (fun y => ite _ _ _) => F1
      rename News _ _ _ _ => N1
      obtain ⟨io, hio⟩ := hio
      refine ⟨_, _, _, _, _, rfl, F1, N1, row_sub.1, row_sub.2, row_ne hI (Nat.ne_of_gt (hlt2 (I, io) ?_)), gl ++ [(gg, lw)], oo2, oa, _, ta0, a5, b5, ta5, tb5, n5, W2, _, c3, rfl, by simp [hgl], ?_, by rw [joinGL_append]; simpa [joinGL] using d1, d2, ha5, hb7, hb8, hW2, by rw [List.map_append]; exact hws.snoc, rfl⟩
      · simp [hio]
      · intro p hp
        rcases List.mem_append.mp hp with hp | hp
        · exact hgo p hp
        · rw [List.mem_singleton.mp hp]
          exact ⟨hgm, hlt, by dsimp only; lia, by dsimp only; lia⟩
    | succ k ih =>
      refine LCg.CompRest.succ ?_
      intro v I' oI C oC D m₂ h6 tk6 E' hv hC hx F1 N1 off ne
      have ho := LCg.Off3.mem off (src, _) (.tail _ (.tail _ (.tail _ (.head _))))
      walk_at "st"
      refine take_spec B2 F1 X2 N1 T2 rfl (.tail ho.1.symm (.tail ho.2.1.symm (.tail ho.2.2.symm (.tail e3 (.tail e2 (.tail e1 (.head (hapS _ _)))))))) hab.1 hab.2 (by decide) (by decide) ?_ ?_ ?_
      · walk_at "rm"
      · walk_at "un"
      intro dd a4 b4 ta4 tb4 t4 n4 h7 tk7 hdd0 hdd1 ha4 hb7 hb8 F2 N2
      walk_at "st"
      refine LCg.CompEnd.intro F2 N2 ((_, oo) :: (_, oa) :: (_, _) :: (src, srcO a4 b4 ta4 tb4 n4) :: (168, tabObj #[]) :: (W, lstO ws nw) :: (rest ++ own)) (fun _ h => h) off trivial ?_
      apply ih
      · simp only [List.length_append, List.length_cons, List.length_nil]; lia
      · rw [List.all_append, hin, Bool.true_and, List.all_cons, List.all_nil, Bool.and_true]
        simp only [digV, Bool.and_eq_true, decide_eq_true_eq]
        lia
      · exact ⟨ha4, hb7, hb8⟩
  · clear F1 N1 r1 d1 d2 ha1 hb1 hb2
    rintro m₁ nx h1 tk1 ⟨gl, oo, oa, to, ta0, a2, b2, ta2, tb2, n2, W, ws, nw, rfl, hgl, hgo, d1, d2, ha2, hb3, hb4, hW, hws, hm1⟩ F1 N1
    obtain ⟨u, rfl⟩ := pin1 hm1
    clear hm1
    have hwl := hws.len
    rw [List.length_map] at hwl
    have hok : GLOk gl := fun p hp => ⟨rowGaps_ok _ (hgo p hp).1, List.length_pos_iff.mp (hgo p hp).2.2.1, fun c hc => digit_stop (List.all_eq_true.mp (hgo p hp).2.1 c hc)⟩
    have hjl := join_len hgo
    replace N1 : News _ _ _ ((168, tabObj #[]) :: ([] ++ (_, oa) :: (_, oo) :: (W, lstO ws nw) :: (src, srcO a2 b2 ta2 tb2 n2) :: rest)) := fun q hq => N1 q (perm_k q hq)
    walk_at "st"
    rename Fr _ _ _ (fun y => ite _ _ _) => F1
    rename News _ _ _ _ => N1
    refine For_F F1 rfl rfl ?_
    walk_at "st"
    rename Fr _ _ _ (fun y => ite _ _ _) => F1
    rename News _ _ _ _ => N1
    refine iter_listH (vs := ws) (RowK _ W src oo _ _ rest gl) rfl (N1.isList (.tail _ (.tail _ (.tail _ (.head _))))) (N1 _ (.tail _ (.tail _ (.tail _ (.head _))))).2.1 F1 N1 ⟨oa, ta0, #[], [], rfl, d2, lamTab0, ?_, (fun _ h => nomatch h)⟩ ?_ ?_
    · exact rowk_first l0 hap hr168 hW.1
    · clear F1 N1 d2
      rintro j v m₁ nx h1 tk1 I own hv ⟨oa, ta0, ps, cod, rfl, d2, I0, hB, hA⟩ hI hio hown F1 N1
      refine pk ?_
      intro Pk ik
      obtain ⟨l, tl, hl, rfl⟩ := hws.at hv
      refine up ik ?_
      clear ik
      rw [List.getElem?_map] at hl
      refine pk ?_
      intro Pk ik
      obtain ⟨⟨g, l'⟩, hg, hll⟩ := Option.map_eq_some_iff.mp hl
      refine up ik ?_
      clear ik
      obtain rfl : l' = l := hll
      refine pk ?_
      intro Pk ik
      obtain ⟨b, e, hb1, he1, hw1, hbe, hpb, hpe, heo, hble⟩ := join_step hok hg rfl
      refine up ik ?_
      clear ik
      have hlg := hgo _ (List.mem_of_getElem? hg)
      dsimp only at hlg
      obtain ⟨hB', hA'⟩ := rowk_own hB hA hI hown
      replace N1 : News _ _ _ ([] ++ (168, tabObj ps) :: (cod ++ (_, oa) :: (_, oo) :: (W, lstO ws nw) :: (src, _) :: (rest ++ own))) := fun q hq => N1 q (by simpa [List.append_assoc] using hq)
      walk_at "st"
      rename Fr _ _ _ (fun y => ite _ _ _) => F1
      refine lam_make (fr := []) F1 N1 T2 (CH.keeps FG.keep) rfl I0 hB' hA' rfl rfl rfl ?_
      clear F1 N1
      intro f c' oc vs t0 ctv h4 tk4 ps1 cod1 I1 hcm hcd hcv F1 N1 hap1 hap21 hlt
      walk_at "st"
      refine told_lam (fun v news' => b ≠ e ∧ _ ∧ _ ∧ _) (b = e) (b ≠ e ∧ _) B2 F1 X2 N1 T2 rfl (.head _) (.tail _ (List.mem_append_right _ (.tail _ (List.mem_append_left _ hcm)))) hcd hcv rfl rfl rfl (by decide) ?_ ?_ X T (fun g L₁ L'' h₁ tk B3 F3 N3 X3 T3 => body_num B3 F3 X3 N3 T3 (.tail _ (.tail _ (List.mem_append_right _ (.tail _ (.head _))))) d1 (.tail _ (.tail _ (List.mem_append_right _ (.head _)))) d2 (by lia) (by lia) (by lia) (by rw [Int.toNat_natCast]; exact hb1.symm) he1.symm ?_ ?_) ?_ ?_
      · walk_at "rm"
      · walk_at "un"
      · walk_at "rm"
      · walk_at "un"
      · rintro v h5 tk5 news' ⟨hne, hl9, hall, t5, tb5, te5, rfl, rfl, hlt5⟩ F1 N1
        rw [hw1] at hl9 hall N1
        replace N1 : News _ _ _ ((t5, _) :: (_, oa) :: (_, oo) :: (168, _) :: (cod1 ++ (_, oa) :: (_, oo) :: (W, lstO ws nw) :: (src, _) :: (rest ++ own))) := fun q hq => N1 q (perm_t q hq)
        walk_at "st"
        refine value_spec2 B2 F1 X2 N1 T2 rfl (by lia) ?_ ?_ ?_
        · walk_at "rm"
        · walk_at "un"
        clear F1 N1
        intro v' h6 tk6 D2 F1 N1
        obtain ⟨hgw, td, rfl⟩ | ⟨hgw, -⟩ := D2
        rotate_left
        · exact absurd ⟨List.length_pos_iff.mp hlg.2.2.1, hl9, hlg.2.1⟩ hgw
        walk_at "st"
        refine PyProof.Rows.ne_int ?_
        rw [bne_self_eq_false]
        walk_at "st"
        rename Fr _ _ _ (fun y => ite _ _ _) => F1
        rename News _ _ _ _ => N1
        refine slice_L (x := joinGL gl) (y := (joinGL gl).take e) F1 N1 .none (.int _ _) (by lia) (by simp only [Option.elim_none, Option.elim_some, clipAt_nat, List.drop_zero, Nat.sub_zero]; rw [Nat.min_eq_left heo]) ?_
        clear F1 N1
        intro h2 t2 k2 F1 N1
        walk_at "st"
        rename Fr _ _ _ (fun y => ite _ _ _) => F1
        rename News _ _ _ _ => N1
        refine withEq ((joinGL gl).take e) fun xe hxe => ?_
        rw [← hxe]
        have hcb := cut_back hxe hw1 heo hble
        have hxl : xe.length ≤ 1000000 := by rw [hxe, List.length_take]; lia
        refine slice_L (x := xe) (y := l') F1 N1 (.int _ _) .none hxl (by simp only [Option.elim_none, Option.elim_some, List.size_toArray]; rw [clipAt_neg _ _ (by lia)]; exact hcb) ?_
        clear F1 N1
        intro h2 t2 k2 F1 N1
        walk_at "st"
        refine ne_bytes ?_
        rw [bne_self_eq_false]
        walk_at "st"
        rename Fr _ _ _ (fun y => ite _ _ _) => F1
        rename News _ _ _ _ => N1
        replace N1 := fun q hq => N1 q (perm_u q hq)
        k_dflt (refine storeX_C F1 N1 rfl (.head (rowk_upd l0 hW hap1 hap21 (hI _ (List.mem_cons_of_mem _ (List.mem_append_right _ (.head _)))) hown)) d2 ?_)
        clear F1 N1 d2
        intro h8 oa2 F1 N1 d2
        walk_at "st"
        rename Fr _ _ _ (fun y => ite _ _ _) => F1
        rename News _ _ _ _ => N1
        obtain ⟨io, hio⟩ := hio
        refine pk ?_
        intro Pk ik
        obtain ⟨u1, u2, u3, u4, u5⟩ := rowk_end (q1 := oa2) (ot2 := tabObj ps1) hap1 hap21 hI hio
        refine up ik ?_
        clear ik
        exact ⟨_, _, _, _, _, rfl, F1, N1, u1, u2, u3, oa2, _, ps1, cod1, rfl, by rw [← hpe]; exact d2, I1, u4, u5⟩
      · intro h₀1 h5 tk5 t5 r1 hr st1 B2 F1 N1 hfr1
        obtain ⟨hr, rfl⟩ | ⟨hr, rfl⟩ := hr
        · lia
        rw [hw1] at hr
        replace FG := hfr1 _ _ ⟨_, .head _, rfl⟩ FG
        have X2 := X.keeps st1
        have T2 := T.keeps st1
        clear hfr1 st1
        walk_at "st"
        refine value_spec2 B2 F1 X2 N1 T2 rfl (by lia) ?_ ?_ ?_
        · walk_at "rm"
        · walk_at "un"
        clear F1 N1
        intro v' h6 tk6 D2 F1 N1
        obtain ⟨hgw, -⟩ | ⟨-, td, rfl⟩ := D2
        · exfalso
          rcases hr.2 with h9 | h9
          · exact absurd h9 (Nat.not_lt.mpr hgw.2.1)
          · rw [hgw.2.2] at h9; cases h9
        walk_at "st"
        rename Fr _ _ _ (fun y => ite _ _ _) => F1
        rename News _ _ _ _ => N1
        rw [beq_self_eq_true]
        unfold PostG
        dsimp only
        refine abs_ret (by with_reducible assumption) ?_
        try dsimp only
        have hfin := frBack FG F1 N1
        exact ret a2 b2 ta2 tb2 n2 _ _ _ ha2 hb3 hb4 hfin.1 (fun q hq => hfin.2 q (.tail _ (.tail _ (perm_r q hq))))
    · clear F1 N1 d2
      rintro m₁ nx h1 tk1 ⟨oa, ta0, ps, cod, rfl, d2, I0, hB, hA⟩ F1 N1
      rw [hwl, List.take_length] at d2
      walk_at "st"
      rename Fr _ _ _ m₁ => F1
      rename News _ _ _ _ => N1
      refine lam_make (fr := []) F1 N1 T2 (CH.keeps FG.keep) rfl I0 hB hA rfl rfl rfl ?_
      clear F1 N1
      intro f c' oc vs t0 ctv h4 tk4 ps1 cod1 I1 hcm hcd hcv F1 N1 hap1 hap21 hlt
      walk_at "st"
      refine withEq (joinGL gl).length fun b hb => ?_
      refine told_lam (fun v news' => b ≠ b ∧ _ ∧ _ ∧ _) (b = b) (b ≠ b ∧ _) B2 F1 X2 N1 T2 rfl (.head _) (.tail _ (List.mem_append_right _ (.tail _ (List.mem_append_left _ hcm)))) hcd hcv rfl rfl rfl (by decide) ?_ ?_ X T (fun g L₁ L'' h₁ tk B3 F3 N3 X3 T3 => body_num B3 F3 X3 N3 T3 (.tail _ (.tail _ (List.mem_append_right _ (.tail _ (.head _))))) d1 (.tail _ (.tail _ (List.mem_append_right _ (.head _)))) d2 (by lia) (by lia) (by lia) (by rw [Int.toNat_natCast, tail_end.1]; exact hb) (by rw [hb]; exact tail_end.2.symm) ?_ ?_) ?_ ?_
      · walk_at "rm"
      · walk_at "un"
      · walk_at "rm"
      · walk_at "un"
      · rintro v h5 tk5 news' ⟨hne, _⟩
        exact absurd rfl hne
      · intro h₀1 h5 tk5 t5 r1 hr st1 B2 F1 N1 hfr1
        obtain ⟨-, rfl⟩ | ⟨hr, -⟩ := hr
        rotate_left
        · exact absurd rfl hr.1
        replace FG := hfr1 _ _ ⟨_, .head _, rfl⟩ FG
        have X2 := X.keeps st1
        have T2 := T.keeps st1
        clear hfr1 st1
        replace N1 : News _ _ _ ((f, _) :: (_, oa) :: (_, oo) :: (168, _) :: (cod1 ++ (_, oa) :: (_, oo) :: (W, lstO ws nw) :: (src, _) :: rest)) := fun q hq => N1 q (perm_v q hq)
        walk_at "st"
        rw [List.size_toArray, beq_self_eq_true]
        have hfin := frBack FG F1 N1
        exact ret a2 b2 ta2 tb2 n2 _ _ _ ha2 hb3 hb4 hfin.1 (fun q hq => hfin.2 q (perm_w q hq))
end
section
open PySem PySem.W PyProof.Rows PySem.Calls
set_option maxRecDepth 100000
def bytesIs : List UInt8 → Value → Bool
  | x, .bytes y _ => y.toList == x
  | _, _ => false
theorem bytesIs_shape {x : List UInt8} {v : Value} (h : bytesIs x v = true) : ∃ t, v = .bytes x.toArray t := by
  unfold bytesIs at h
  split at h
  · rename_i y t
    have e : y.toList = x := eq_of_beq h
    exact ⟨t, by rw [← e]⟩
  · cases h
theorem bytesIs_self {x : List UInt8} (t : Tok) : bytesIs x (.bytes x.toArray t) = true := by
  show (x.toArray.toList == x) = true
  simp
theorem bytesIs_inj (v : Value) (a b : List UInt8) (ha : bytesIs a v = true) (hb : bytesIs b v = true) : a = b := by
  obtain ⟨t, rfl⟩ := bytesIs_shape ha
  obtain ⟨u, h⟩ := bytesIs_shape hb
  injection h with h
  simpa using h
def redHash (i : Int) : Int := if (decide (-(2 : Int) ^ 63 ≤ i) && decide (i < 2 ^ 63)) = true then (if i == -1 then -2 else i) else
  (if (if i < 0 then -((i.natAbs : Int) % (2 ^ 61 - 1)) else (i.natAbs : Int) % (2 ^ 61 - 1)) == -1 then -2 else (if i < 0 then -((i.natAbs : Int) % (2 ^ 61 - 1)) else (i.natAbs : Int) % (2 ^ 61 - 1)))
def bytesHash (w : World) (x : List UInt8) : Int := redHash (hashStr w ⟨x.toArray.map (·.toNat)⟩)
section
variable {prog : Program} {w : World} {A : Around} {E : Value → Shared → Prop} {s : Shared}
theorem reduced_meets {i : Int} {Q : Int → Shared → Prop} (h : Q (redHash i) s) : wpAny (model prog w) A (pyHashByItsType.reduced i) Q E s := by
  unfold pyHashByItsType.reduced
  unfold redHash at h
  refine wpAny_ite_split (fun hc => ?_) (fun hc => ?_)
  · rw [if_pos hc] at h
    exact wpAny_pure h
  · rw [if_neg hc] at h
    exact wpAny_bind (wpAny_rule (wpAny_pure h))
theorem hash_bytes {x : List UInt8} {t : Tok} {Q : Int → Shared → Prop} (h : Q (bytesHash w x) { s with toks := s.toks + 1 }) :
    wpAny (model prog w) A (pyHash (.bytes x.toArray t)) Q E s := by
  have hT : s.TypeIs (.bytes x.toArray t) "bytes" := typeIs_bytes s _ t
  unfold pyHash
  have hv : [Value.bytes x.toArray t].any Value.onHeap = false := rfl
  refine wpAny_bind ?_
  rw [cRoomFor, if_neg (by rw [hv]; exact Bool.false_ne_true)]; refine wpAny_pure ?_
  refine wpAny_bind (wpAny_specialOf hT FB.slot_bytes_hash.lookup ?_)
  show wpAny _ _ (if (some (Value.builtin "bytes.__hash__") == some Value.none) = true then _ else _) Q E s
  rw [if_neg (by rw [beq_builtin_none]; exact Bool.false_ne_true)]
  refine wpAny_bind (wpAny_specialOf hT FB.slot_bytes_hash.lookup ?_)
  show wpAny _ _ (callSpecialIfBoundUnlessNone? (.bytes x.toArray t) "__hash__" _ >>= _) Q E s
  refine wpAny_bind (wpAny_callSpecialIfBoundUnlessNone?_slot hT FB.slot_bytes_hash
    (wpAny_call_entry FB.slot_bytes_hash hT FB.entry_bytes_hash
      (show wpAny _ _ (strHash ⟨x.toArray.map (·.toNat)⟩ >>= fun i => (do ret (← mkInt i))) _ _ s from ?_) (FB.args_bytes_hash_1 _)))
  unfold strHash
  refine wpAny_bind (wpAny_bind (wpAny_askSetting (wpAny_pure (wpAny_ret_mkInt ?_))))
  exact reduced_meets h
theorem eqBool_bytes {a b : List UInt8} {t u : Tok} {Q : Bool → Shared → Prop} (h : Q (decide (a = b)) s) :
    wpAny (model prog w) A (eqBool (.bytes a.toArray t) (.bytes b.toArray u)) Q E s := by
  unfold eqBool
  refine wpAny_holding ?_
  refine wpAny_ite_split (fun hab => ?_) (fun _ => ?_)
  · have e : a = b := by have := eq_of_beq hab; injection this with h1; simpa using h1
    subst e
    exact wpAny_bind (wpAny_rule (wpAny_pure (by simpa using h)))
  · refine wpAny_bind (cmp_ofEq (eq_bytes (wpAny_truthy_bool ?_)))
    have e : (a.toArray.toList == b.toArray.toList) = decide (a = b) := by
      rw [Bool.eq_iff_iff]; simp
    rw [e]; exact h
end
def bytesKind (prog : Program) (w : World) : KeyKind prog w (List UInt8) where
  is := bytesIs
  hash := bytesHash w
  inj := bytesIs_inj
  byValue := fun k v h => by obtain ⟨t, rfl⟩ := bytesIs_shape h; rfl
  pyHash := fun hv h => by obtain ⟨t, rfl⟩ := bytesIs_shape hv; exact hash_bytes h
  eqBool := fun hu hv h => by
    obtain ⟨t, rfl⟩ := bytesIs_shape hu
    obtain ⟨u, rfl⟩ := bytesIs_shape hv
    exact eqBool_bytes h
  «strs» := fun k x t v h => by
    obtain ⟨u, hu⟩ := bytesIs_shape h
    cases hu
/-- values that are told by their bytes -/
inductive SameV : List (List UInt8 × Value) → List (List UInt8 × List UInt8) → Prop
  | nil : SameV [] []
  | cons {k x : List UInt8} (t : Tok) {vs : List (List UInt8 × Value)} {kvs : List (List UInt8 × List UInt8)} : SameV vs kvs → SameV ((k, .bytes x.toArray t) :: vs) ((k, x) :: kvs)
theorem SameV.len {vs kvs} (h : SameV vs kvs) : vs.length = kvs.length := by
  induction h with
  | nil => rfl
  | cons _ _ ih => simp [ih]
theorem SameV.keys {vs kvs} (h : SameV vs kvs) : vs.map (·.1) = kvs.map (·.1) := by
  induction h with
  | nil => rfl
  | cons _ _ ih => simp [ih]
theorem SameV.snoc {vs kvs} {k x : List UInt8} {t : Tok} (h : SameV vs kvs) : SameV (vs ++ [(k, .bytes x.toArray t)]) (kvs ++ [(k, x)]) := by
  induction h with
  | nil => exact .cons t .nil
  | cons u _ ih => exact .cons u ih
theorem valueAt_isSome {vs : List (List UInt8 × Value)} {k : List UInt8} : (valueAt vs k).isSome = decide (k ∈ vs.map (·.1)) := by
  unfold valueAt
  rw [Option.isSome_map, Bool.eq_iff_iff, List.find?_isSome]
  simp only [decide_eq_true_eq, List.mem_map]
theorem stored_new {vs : List (List UInt8 × Value)} {k : List UInt8} {v : Value} (h : k ∉ vs.map (·.1)) : stored vs k v = vs ++ [(k, v)] := by
  unfold stored
  rw [if_neg]
  rw [List.any_eq_true]
  rintro ⟨kv, h1, h2⟩
  exact h (List.mem_map.mpr ⟨kv, h1, of_decide_eq_true h2⟩)
theorem SameV.hits {A : Around} {s : Shared} {w1 : List (List UInt8 × Value)} (vs : List (List UInt8 × Value)) : ∀ {kvs : List (List UInt8 × List UInt8)}, SameV vs kvs →
    (∀ k x, (k, x) ∈ kvs → ∃ t, valueAt w1 k = some (.bytes x.toArray t)) → KeqHits A s w1 vs true := by
  intro kvs h
  induction h with
  | nil => exact fun _ => .nil
  | @cons k x t vs kvs _ ih =>
    intro hw
    obtain ⟨u, hu⟩ := hw k x (.head _)
    have e : SeqAt.EqAt A s (.bytes x.toArray t) (.bytes x.toArray u) true := fun prog w E Q h => eqBool_bytes (by simpa using h)
    have := KeqHits.hit hu e (ih fun k x hm => hw k x (.tail _ hm))
    simpa using this
theorem SameV.at {w1 : List (List UInt8 × Value)} {kvs : List (List UInt8 × List UInt8)} (h : SameV w1 kvs) (hn : (kvs.map (·.1)).Nodup) : ∀ k x, (k, x) ∈ kvs → ∃ t, valueAt w1 k = some (.bytes x.toArray t) := by
  induction h with
  | nil => exact fun _ _ h => nomatch h
  | @cons k x t vs kvs _ ih =>
    intro k' x' hm
    rw [List.map_cons, List.nodup_cons] at hn
    rcases List.mem_cons.mp hm with e | hm
    · cases e
      exact ⟨t, by simp [valueAt]⟩
    · obtain ⟨u, hu⟩ := ih hn.2 k' x' hm
      have hne : k ≠ k' := fun e => hn.1 (List.mem_map.mpr ⟨(k', x'), hm, e.symm⟩)
      refine ⟨u, ?_⟩
      unfold valueAt at hu ⊢
      rw [List.find?_cons]
      simpa [hne] using hu
/-- a made dict whose keys and values are bytes -/
def BDict (prog : Program) (w : World) (o : Obj) (kvs : List (List UInt8 × List UInt8)) : Prop := ∃ vs, o.IsDictOf (bytesKind prog w) vs ∧ SameV vs kvs
section
variable {prog : Program} {w : World} {A : Around} {E : Value → Shared → Prop} {s : Shared} {h₀ : Heap} {L d : Addr} {m : Str → Option Value} {news : List (Addr × Obj)} {o : Obj} {kvs : List (List UInt8 × List UInt8)}
theorem bdict_in {k : List UInt8} {t : Tok} {Q : Value → Shared → Prop} (N : News h₀ L s.heap news) (hp : (d, o) ∈ news) (hd : BDict prog w o kvs) (lo : (d == sysModules) = false) (h : ∀ tk, Q (.bool (decide (k ∈ kvs.map (·.1)))) { s with toks := tk }) :
    wpAny (model prog w) A (compareOp .In (.bytes k.toArray t) (.ref d)) Q E s := by
  obtain ⟨vs, h1, h2⟩ := hd
  exact kda_in N hp h1 lo (bytesIs_self t) _ rfl (by rw [valueAt_isSome, h2.keys]; exact h _)
theorem bdict_set {k x : List UInt8} {t u : Tok} {rest : List (Addr × Obj)} {Q : Unit → Shared → Prop} (F : Fr h₀ L s.heap m) (N : News h₀ L s.heap ((d, o) :: rest)) (hlt : ∀ p ∈ rest, p.1 ≠ d) (hd : BDict prog w o kvs) (hk : k ∉ kvs.map (·.1)) (hsz : kvs.length < 1000)
    (h : ∀ h' o' tk', Fr h₀ L h' m → News h₀ L h' ((d, o') :: rest) → BDict prog w o' (kvs ++ [(k, x)]) → Q () { s with heap := h', toks := tk' }) : wpAny (model prog w) A (setItem (.ref d) (.bytes k.toArray t) (.bytes x.toArray u)) Q E s := by
  obtain ⟨vs, h1, h2⟩ := hd
  refine kda_set (knd := bytesKind prog w) F N (.head hlt) h1 (bytesIs_self t) (by rw [sizeLine_eq, h2.len]; omega) fun h' o' F' N' hd' => ?_
  rw [stored_new (by rw [h2.keys]; exact hk)] at hd'
  exact h _ _ _ F' N' ⟨_, hd', h2.snoc⟩
theorem bdict_eq {d2 : Addr} {o2 : Obj} {Q : Bool → Shared → Prop} (N : News h₀ L s.heap news) (hp : (d, o) ∈ news) (hp2 : (d2, o2) ∈ news) (hd : BDict prog w o kvs) (hd2 : BDict prog w o2 kvs) (lo : (d == sysModules) = false) (lo2 : (d2 == sysModules) = false) (hn : (kvs.map (·.1)).Nodup) (hu : A.units < cLine) (h : Q true s) :
    wpAny (model prog w) A (eqBool (.ref d) (.ref d2)) Q E s := by
  obtain ⟨vs, h1, h2⟩ := hd
  obtain ⟨us, h3, h4⟩ := hd2
  unfold eqBool
  refine wpAny_holding ?_
  refine wpAny_ite_split (fun _ => ?_) (fun _ => ?_)
  · exact wpAny_bind (wpAny_rule (wpAny_pure h))
  · refine wpAny_bind (cmp_ofEq (keq_eq (knd := bytesKind prog w) (r := true) lo lo2 (kda_dict N hp h1) (kda_dict N hp2 h3) hu (fun _ => h2.hits _ (h4.at hn)) (wpAny_truthy_bool ?_)))
    rw [h2.len, h4.len]
    simpa using h
theorem tup_dict_eq {a b d2 : Addr} {o2 : Obj} {x : Int} {t u : Tok} {Q : Value → Shared → Prop} (N : News h₀ L s.heap news) (ha : (a, (⟨.type "tuple", none, .seq [Value.ref d, .int x t].toArray 0, #[]⟩ : Obj)) ∈ news) (hb : (b, (⟨.type "tuple", none, .seq [Value.ref d2, .int x u].toArray 0, #[]⟩ : Obj)) ∈ news)
    (hp : (d, o) ∈ news) (hp2 : (d2, o2) ∈ news) (hd : BDict prog w o kvs) (hd2 : BDict prog w o2 kvs) (lo : (d == sysModules) = false) (lo2 : (d2 == sysModules) = false) (hn : (kvs.map (·.1)).Nodup) (hu : A.units + 64 < cLine) (h : Q (.bool true) s) :
    wpAny (model prog w) A (compareOp .Eq (.ref a) (.ref b)) Q E s := by
  have hl := (N _ ha).1
  have hb := (N _ hb).1
  have f2 := AutoSeq1.sub_tuple_tuple
  refine wpAny_richCompare_same_room (op := .Eq) ⟨_, hl, rfl⟩ ⟨_, hb, rfl⟩ PySem.F.slot_tuple_eq (wpAny_call_entry PySem.F.slot_tuple_eq ⟨_, hl, rfl⟩ PySem.F.entry_tuple_eq ?_ (PySem.F.args_tuple_eq_2 _ _)) (by omega)
  obtain ⟨hp9, g9, d9, tk9, os9⟩ := s
  dsimp only at hl hb N
  wp_walk using AutoSeq1.wpAny_loadPart' hl, AutoSeq1.wpAny_loadPart' hb
  obtain ⟨vs, h1, h2⟩ := hd
  obtain ⟨us, h3, h4⟩ := hd2
  have two : ∀ {Q : Bool → Shared → Prop}, Q true ⟨hp9, g9, d9, tk9, os9⟩ → wpAny (model prog w) A.in1 (richCompare .Eq (Value.ref d) (Value.ref d2) >>= fun r => truthOfDropped r) Q E ⟨hp9, g9, d9, tk9, os9⟩ := fun hq => by
    refine wpAny_bind (cmp_ofEq (keq_eq (knd := bytesKind prog w) (r := true) lo lo2 (kda_dict N hp h1) (kda_dict N hp2 h3) ?_ (fun _ => h2.hits _ (h4.at hn)) (wpAny_truthy_bool ?_)))
    · rw [Around.in1_units]; omega
    · rw [h2.len, h4.len]
      simpa using hq
  have one : ∀ {Q : Bool → Shared → Prop}, Q true ⟨hp9, g9, d9, tk9, os9⟩ → wpAny (model prog w) A.in1 (richCompare .Eq (Value.int x t) (Value.int x u) >>= fun r => truthOfDropped r) Q E ⟨hp9, g9, d9, tk9, os9⟩ := fun hq =>
    wpAny_bind (cmp_ofEq (eq_int (wpAny_truthy_bool (by simpa using hq))))
  refine wpAny_ite_split (fun _ => wpAny_bind (wpAny_rule (wpAny_pure ?_))) (fun _ => two ?_)
  all_goals (
    wp_walk
    refine wpAny_ite_split (fun _ => wpAny_bind (wpAny_rule (wpAny_pure ?_))) (fun _ => one ?_)
    all_goals (
      wp_walk
      exact ⟨_, rfl, (fun x => nomatch x), h⟩))
end
end
local macro_rules | `(tactic| walk_at "n19") => `(tactic| (fail_if_success (with_reducible show wpAny _ _ (compareOp .In _ (Value.ref _)) _ _ _)))
local macro_rules | `(tactic| walk_at "n20") => `(tactic| (fail_if_success (with_reducible show wpAny _ _ (setItem _ _ _) _ _ _)))
section
local macro_rules | `(tactic| walk_at "pad") => `(tactic| skip)
open PySem PySem.W PyProof.Rows PySem.Calls
set_option maxRecDepth 100000
theorem filledB1 : Mine.hd.heap_39 = Mine.hd.heap_39 ∧ PySem.Challenge.rw_ok0124_01 = PySem.Challenge.rw_ok0124_01 := by
  k_fill; exact ⟨rfl, rfl⟩
local macro_rules | `(tactic| walk_at "no loop") => `(tactic| ((walk_at "n0"); (walk_at "n2"); (fail_if_success (with_reducible show wpAny _ _ (PySem.call (Value.ref 72) _) _ _ _)); (walk_at "n19"); (fail_if_success (with_reducible show wpAny _ _ (compareOp .NotIn _ (Value.ref _)) _ _ _)); (walk_at "n20")))
abbrev wEND : List UInt8 := [69, 78, 68, 72, 68, 82]
abbrev wTT : List UInt8 := [84, 85, 80, 76, 84, 89, 80, 69]
abbrev wNames : List (List UInt8) := [[87, 73, 68, 84, 72], [72, 69, 73, 71, 72, 84], [68, 69, 80, 84, 72], [77, 65, 88, 86, 65, 76]]
inductive HRes
  | cut
  | range
  | ok (kvs : List (List UInt8 × List UInt8)) (e : Nat)
/-- what read_told_head tells, from the place where a name is due -/
def hdF (o : List UInt8) : Nat → List (List UInt8 × List UInt8) → Nat → HRes
  | 0, _, _ => .cut
  | n + 1, told, i =>
    if skF o i = enF o (skF o i) then .cut
    else if wdF o (skF o i) (enF o (skF o i)) = wEND then .ok told (enF o (skF o i))
    else if wdF o (skF o i) (enF o (skF o i)) ∈ told.map (·.1) ∨ (wdF o (skF o i) (enF o (skF o i)) ∉ wNames ∧ wdF o (skF o i) (enF o (skF o i)) ≠ wTT) then .range
    else if skF o (enF o (skF o i)) = enF o (skF o (enF o (skF o i))) then .cut
    else hdF o n (told ++ [(wdF o (skF o i) (enF o (skF o i)), wdF o (skF o (enF o (skF o i))) (enF o (skF o (enF o (skF o i)))))]) (enF o (skF o (enF o (skF o i))))
section
variable {o : List UInt8} {n i : Nat} {kvs : List (List UInt8 × List UInt8)}
theorem hd_end (hb : skF o i ≠ enF o (skF o i)) (hw : wdF o (skF o i) (enF o (skF o i)) = wEND) : hdF o (n + 1) kvs i = .ok kvs (enF o (skF o i)) := by
  rw [hdF, if_neg hb, if_pos hw]
theorem hd_range (hb : skF o i ≠ enF o (skF o i)) (hw : wdF o (skF o i) (enF o (skF o i)) ≠ wEND)
    (hr : wdF o (skF o i) (enF o (skF o i)) ∈ kvs.map (·.1) ∨ (wdF o (skF o i) (enF o (skF o i)) ∉ wNames ∧ wdF o (skF o i) (enF o (skF o i)) ≠ wTT)) : hdF o (n + 1) kvs i = .range := by
  rw [hdF, if_neg hb, if_neg hw, if_pos hr]
theorem hd_cut (hb : skF o i ≠ enF o (skF o i)) (hw : wdF o (skF o i) (enF o (skF o i)) ≠ wEND)
    (hr : ¬ (wdF o (skF o i) (enF o (skF o i)) ∈ kvs.map (·.1) ∨ (wdF o (skF o i) (enF o (skF o i)) ∉ wNames ∧ wdF o (skF o i) (enF o (skF o i)) ≠ wTT)))
    (hb2 : skF o (enF o (skF o i)) = enF o (skF o (enF o (skF o i)))) : hdF o (n + 1) kvs i = .cut := by
  rw [hdF, if_neg hb, if_neg hw, if_neg hr, if_pos hb2]
theorem hd_go (hb : skF o i ≠ enF o (skF o i)) (hw : wdF o (skF o i) (enF o (skF o i)) ≠ wEND)
    (hr : ¬ (wdF o (skF o i) (enF o (skF o i)) ∈ kvs.map (·.1) ∨ (wdF o (skF o i) (enF o (skF o i)) ∉ wNames ∧ wdF o (skF o i) (enF o (skF o i)) ≠ wTT)))
    (hb2 : skF o (enF o (skF o i)) ≠ enF o (skF o (enF o (skF o i)))) :
    hdF o (n + 1) kvs i = hdF o n (kvs ++ [(wdF o (skF o i) (enF o (skF o i)), wdF o (skF o (enF o (skF o i))) (enF o (skF o (enF o (skF o i)))))]) (enF o (skF o (enF o (skF o i)))) := by
  rw [hdF, if_neg hb, if_neg hw, if_neg hr, if_neg hb2]
end
theorem raised_sub {base : Heap} {outer : List Env} {x : Addr} {cls : Value} {news news' : List (Addr × Obj)} {h : Heap} (R : RaisedN base outer x cls news h) (hs : ∀ q ∈ news', q ∈ news) : RaisedN base outer x cls news' h := by
  obtain ⟨B, a0, hB, hl, hfl⟩ := R
  exact ⟨B, a0, hB, fun p hp => hl p (hs p hp), hfl⟩
local macro_rules | `(tactic| walk_at "call ref") => `(tactic| walk_at "s3")
theorem eqAt_key {A : Around} {s : Shared} {x name : List UInt8} {t u : Tok} : SeqAt.EqAt A s (.bytes x.toArray t) (.bytes name.toArray u) (decide (name = x)) := fun prog w E Q h => eqBool_bytes (by
  rw [decide_eq_decide.mpr (eq_comm (a := x) (b := name))]; exact h)
def keyIs (name : List UInt8) (v : Value) : Bool := match v with | .bytes a _ => decide (name = a.toList) | _ => false
theorem keyIs_any {name : List UInt8} : ∀ {ks : List (List UInt8)} {vs : List Value}, vs.map (fun v => match v with | .bytes a _ => a.toList | _ => []) = ks → (∀ v ∈ vs, ∃ (x : List UInt8) (t : Tok), v = .bytes x.toArray t) → vs.any (keyIs name) = decide (name ∈ ks)
  | [], [], _, _ => rfl
  | [], _ :: _, h, _ => by cases h
  | _ :: _, [], h, _ => by cases h
  | k :: ks, v :: vs, h, hv => by
    obtain ⟨x, t, rfl⟩ := hv v (.head _)
    rw [List.map_cons, List.cons.injEq] at h
    obtain ⟨h1, h2⟩ := h
    have h3 : x = k := h1
    subst h3
    rw [List.any_cons, keyIs_any h2 fun v h => hv v (.tail _ h)]
    rw [Bool.eq_iff_iff]
    simp only [keyIs, Bool.or_eq_true, decide_eq_true_eq, List.mem_cons]
theorem names_notIn {prog : Program} {w : World} {A : Around} {E : Value → Shared → Prop} {s : Shared} {l : Addr} {name : List UInt8} {ks : List (List UInt8)} {t : Tok} {items : List Value} {n : Nat} {Q : Value → Shared → Prop}
    (hl : s.heap.get? l = some { cls := .type "tuple", data := .seq items.toArray n }) (hks : items.map (fun v => match v with | .bytes a _ => a.toList | _ => []) = ks) (hv : ∀ v ∈ items, ∃ (x : List UInt8) (t : Tok), v = .bytes x.toArray t) (h : Q (.bool (!decide (name ∈ ks))) s) :
    wpAny (model prog w) A (compareOp .NotIn (.bytes name.toArray t) (.ref l)) Q E s := by
  refine SeqAt.notIn_tupleAt (keyIs name) ⟨_, hl, rfl, _, rfl⟩ ?_ ?_
  · intro y hy
    obtain ⟨x, t, rfl⟩ := hv y (by simpa using hy)
    exact eqAt_key
  · rw [← Array.any_toList, keyIs_any hks hv]; exact h
theorem notIn_names {prog : Program} {w : World} {A : Around} {E : Value → Shared → Prop} {s : Shared} {name : List UInt8} {t t1 t2 t3 t4 : Tok} {Q : Value → Shared → Prop}
    (h99 : s.heap.get? 99 = some { cls := .type "tuple", data := .seq #[Value.bytes #[87, 73, 68, 84, 72] t1, .bytes #[72, 69, 73, 71, 72, 84] t2, .bytes #[68, 69, 80, 84, 72] t3, .bytes #[77, 65, 88, 86, 65, 76] t4] }) (h : Q (.bool (!decide (name ∈ wNames))) s) :
    wpAny (model prog w) A (compareOp .NotIn (.bytes name.toArray t) (.ref 99)) Q E s := by
  refine names_notIn (items := [Value.bytes #[87, 73, 68, 84, 72] t1, .bytes #[72, 69, 73, 71, 72, 84] t2, .bytes #[68, 69, 80, 84, 72] t3, .bytes #[77, 65, 88, 86, 65, 76] t4]) h99 rfl ?_ h
  intro v hv
  rcases List.mem_cons.mp hv with rfl | hv
  · exact ⟨[87, 73, 68, 84, 72], _, rfl⟩
  rcases List.mem_cons.mp hv with rfl | hv
  · exact ⟨[72, 69, 73, 71, 72, 84], _, rfl⟩
  rcases List.mem_cons.mp hv with rfl | hv
  · exact ⟨[68, 69, 80, 84, 72], _, rfl⟩
  rcases List.mem_cons.mp hv with rfl | hv
  · exact ⟨[77, 65, 88, 86, 65, 76], _, rfl⟩
  · cases hv
theorem bdict_nil {prog : Program} {w : World} {o : Obj} (h : o.IsDictOf (PySem.strKind prog w) []) : BDict prog w o [] := by
  obtain ⟨es, ep, h1, h2, h3, h4, h5⟩ := h
  have he : es = #[] := by
    obtain ⟨l⟩ := es
    cases l with
    | nil => rfl
    | cons a r => cases h4
  subst he
  exact ⟨[], ⟨#[], ep, h1, h2, (fun e he => by simp at he), .nil, List.nodup_nil⟩, .nil⟩
set_option maxHeartbeats 8000000 in
theorem rth_spec {prog : Program} {w : World} {p : Program} {loose : List Str} {mean : ExcName → Option Value} {mg mb : Str → Option Value} {dp un : Nat} {gd : Option (List Code)} {cn : Str} {cs : Scope} {fa : Addr} {ccd : Value} {cl : List (Str × Addr)} {outer : List Env} {A₀ : Around} {base h₀ : Heap} {L : Addr} {m : Str → Option Value} {s : Shared} {Q E : Value → Shared → Prop}
    {news : List (Addr × Obj)} {o : List UInt8} {to : Tok} {R : HRes}
    (B : Below A₀ base outer h₀) (F : Fr h₀ L s.heap m) (X : (Mine.hd.heap_39 w.params).In h₀) (N : News h₀ L s.heap news) (T : Top p loose mean mg mb h₀) (hk : cs.kind = .function)
    (h2 : 2 ≤ o.length) (hos : o.length < 500) (hR : R = hdF o (o.length + 1) [] 2) (hd : dp + 9 < recursionLimit) (hu : un + 80 < cLine)
    (ret : ∀ kvs e, R = .ok kvs e → (kvs.map (·.1)).Nodup → ∀ t D od te h' tk' nx, (D, od) ∈ nx → BDict prog w od kvs → (D == sysModules) = false → (∀ q ∈ news, q ∈ nx) → Fr h₀ L h' m → News h₀ L h' ((t, tupO [.ref D, .int e te]) :: nx) → (∀ p ∈ nx, p.1 < t) → Q (.ref t) { s with heap := h', toks := tk' })
    (exc : R = .cut → ∀ x h' tk' g₂, Fr h₀ L g₂ m → RaisedN base (envX cn cs L fa ccd cl :: outer) x (.ref 44) news h' → g₂.UpToSlots h' → E (.ref x) { s with heap := h', toks := tk' })
    (exc2 : R = .range → ∀ x h' tk' g₂, Fr h₀ L g₂ m → RaisedN base (envX cn cs L fa ccd cl :: outer) x (.ref 56) news h' → g₂.UpToSlots h' → E (.ref x) { s with heap := h', toks := tk' }) :
    wpAny (model prog w) (ktrTop dp un gd cn cs L fa ccd cl outer) (call (.ref 106) [.bytes o.toArray to]) Q E s := by
  refine wpAny_call ?_
  k_dflt cell_enter
  clear N F
  rename Fr _ _ _ _ => F1
  replace F1 := lk1 F1
  walk_at "st"
  rename Below _ _ _ _ => B2
  rename Frag.In _ _ => X2
  rename Top _ _ _ _ _ _ => T2
  rename Fr h₀ L _ m => FG
  rename Fr _ _ _ (fun y => ite _ _ _) => F1
  rename News _ _ _ _ => N1
  rename Addr => D
  rename (∀ p ∈ news, Prod.fst p < D) => l1
  rename (_ == sysModules) = false => lo
  have hbd := bdict_nil ‹Obj.IsDictOf (PySem.strKind prog w) _ _›
  clear ‹Obj.IsDictOf (PySem.strKind prog w) _ _› ‹Obj.IsDictOf (PySem.intKind prog w) _ _›
  refine nword_spec B2 F1 X2 N1 T2 rfl (by decide) (by lia) (by lia) rfl rfl ?_ ?_ ?_ ?_
  · walk_at "rm"
  · walk_at "un"
  · intro hbe t tb te h5 tk5 F1 N1 l2
    walk_at "st"
    rename Fr _ _ _ (fun y => ite _ _ _) => F1
    rename News _ _ _ _ => N1
    replace N1 := news_drop N1
    replace hbe : skF o 2 ≠ enF o (skF o 2) := hbe
    refine While_inv2 (fun n m₁ nx => ∃ kvs i ob tb te, nx = (D, ob) :: news ∧ BDict prog w ob kvs ∧ (kvs.map (·.1)).Nodup ∧ R = hdF o n kvs i ∧ o.length + 2 ≤ i + n ∧ i ≤ o.length ∧ kvs.length + n ≤ o.length + 1 ∧ skF o i ≠ enF o (skF o i) ∧
      m₁ "told" = some (.ref D) ∧ m₁ "name" = some (.bytes (wdF o (skF o i) (enF o (skF o i))).toArray tb) ∧ m₁ "at" = some (.int (enF o (skF o i)) te) ∧ m₁ "octets" = some (.bytes o.toArray to)) F1 N1
      ⟨[], 2, _, _, _, rfl, hbd, List.nodup_nil, hR, by lia, h2, by simp, hbe, rfl, rfl, rfl, rfl⟩ ?_
    clear F1 N1 l2 hbe
    rintro n m₁ nx h₁ tk₁ F1 N1 ⟨kvs, i, ob, tb, te, rfl, hbd, hnd, hRn, hin, hil, hkn, hbe, hm1, hm2, hm3, hm4⟩
    obtain ⟨u, rfl⟩ := pin4 hm1 hm2 hm3 hm4
    clear hm1 hm2 hm3 hm4
    obtain ⟨n', rfl⟩ : ∃ k, n = k + 1 := ⟨n - 1, by lia⟩
    have hbl : skF o i ≤ o.length := skF_le hil
    have hel : enF o (skF o i) ≤ o.length := enF_le hbl
    have hbl2 : skF o (enF o (skF o i)) ≤ o.length := skF_le hel
    have hel2 : enF o (skF o (enF o (skF o i))) ≤ o.length := enF_le hbl2
    have hg1 : i ≤ skF o i := skF_ge
    have hg2 : skF o i ≤ enF o (skF o i) := enF_ge
    have hg3 : enF o (skF o i) ≤ skF o (enF o (skF o i)) := skF_ge
    have hg4 : skF o (enF o (skF o i)) ≤ enF o (skF o (enF o (skF o i))) := enF_ge
    have hRe := fun hw => hRn.trans (hd_end hbe hw)
    have hRr := fun hw hr => hRn.trans (hd_range hbe hw hr)
    have hRc := fun hw hr hb2 => hRn.trans (hd_cut hbe hw hr hb2)
    have hRg := fun hw hr hb2 => hRn.trans (hd_go hbe hw hr hb2)
    clear hRn
    generalize hb : skF o i = b at *
    generalize he : enF o b = e at *
    generalize hb2 : skF o e = b2 at *
    generalize he2 : enF o b2 = e2 at *
    have hlt : ∀ p ∈ (D, ob) :: news, p.1 < h₁.objs.size := fun p hp => Heap.lt_size (N1 p hp).1
    walk_at "st"
    · have hw : wdF o b e ≠ wEND := by
        rename (_ != _) = true => hq
        simpa using hq
      refine bdict_in N1 (.head _) hbd lo (fun tk2 => ?_)
      clear hlt hRe
      walk_at "st"
      · (refine exec_raise (C := 56) rfl ?_
         walk_at "st"
         rename Fr _ _ _ (fun y => ite _ _ _) => F2
         rename News _ _ _ _ => N2
         rename (∀ p ∈ _, Prod.fst p < _) => l2
         refine ⟨_, _, _, _, _, _, rfl, (X2.keeps F2.keep) 56 _ (by k_is), by decide, (N2 _ (.head _)).1, ?_⟩
         exact leave_exc B2 F2 N2 (fun p hp => Nat.ne_of_lt (l2 p hp)) (fun h'' R U => exc2 (hRr hw (.inl (by assumption))) _ _ _ _ FG (raised_sub R fun q hq => .tail _ hq) U) rfl rfl)
      · rename (¬ wdF o b e ∈ List.map _ _) => hk1
        refine notIn_names ((X2.keeps F1.keep) 99 _ (by k_is)) ?_
        walk_at "st"
        all_goals first
        | (refine exec_raise (C := 56) rfl ?_
           walk_at "st"
           rename Fr _ _ _ (fun y => ite _ _ _) => F2
           rename News _ _ _ _ => N2
           rename (∀ p ∈ _, Prod.fst p < _) => l2
           refine ⟨_, _, _, _, _, _, rfl, (X2.keeps F2.keep) 56 _ (by k_is), by decide, (N2 _ (.head _)).1, ?_⟩
           exact leave_exc B2 F2 N2 (fun p hp => Nat.ne_of_lt (l2 p hp)) (fun h'' R U => exc2 (hRr hw (.inr ⟨by assumption, by first | assumption | (rename (Array.toList _ != #[84, _, _, _, _, _, _, _].toList) = true => hq; simpa using hq)⟩)) _ _ _ _ FG (raised_sub R fun q hq => .tail _ hq) U) rfl rfl)
        | (have hnr : ¬ (wdF o b e ∈ kvs.map (·.1) ∨ (wdF o b e ∉ wNames ∧ wdF o b e ≠ wTT)) := by
             rintro (h9 | ⟨h8, h9⟩)
             · exact hk1 h9
             · first
               | exact h8 (by assumption)
               | (rename (Array.toList _ != #[84, _, _, _, _, _, _, _].toList) = false => hq
                  exact h9 (by simpa using hq))
           clear hRr
           refine nword_spec (b := b2) (e := e2) B2 F1 X2 N1 T2 rfl (by lia) (by lia) (by lia) (by rw [Int.toNat_natCast]; exact hb2.symm) he2.symm ?_ ?_ ?_ ?_
           · walk_at "rm"
           · walk_at "un"
           · intro hbe2 t2 tb2 te2 h6 tk6 F1 N1 l2
             replace hRg := hRg hw hnr hbe2
             walk_at "st"
             rename Fr _ _ _ (fun y => ite _ _ _) => F1
             rename News _ _ _ _ => N1
             replace N1 := news_drop N1
             refine bdict_set (x := wdF o b2 e2) F1 N1 (fun p hp => Nat.ne_of_lt (l1 p hp)) hbd hk1 (by lia) ?_
             clear F1 N1
             intro h7 ob2 tk7 F1 N1 hbd2
             walk_at "st"
             rename Fr _ _ _ (fun y => ite _ _ _) => F1
             rename News _ _ _ _ => N1
             refine nword_spec (b := skF o e2) (e := enF o (skF o e2)) B2 F1 X2 N1 T2 rfl (by lia) (by lia) (by lia) (by rw [Int.toNat_natCast]) rfl ?_ ?_ ?_ ?_
             · walk_at "rm"
             · walk_at "un"
             · intro hbe3 t3 tb3 te3 h8 tk8 F1 N1 l3
               walk_at "st"
               rename Fr _ _ _ (fun y => ite _ _ _) => F1
               rename News _ _ _ _ => N1
               replace N1 := news_drop N1
               refine ⟨_, _, _, _, _, rfl, F1, N1, Nat.lt_succ_self _, kvs ++ [(wdF o b e, wdF o b2 e2)], e2, ob2, _, _, rfl, hbd2, ?_, hRg, by lia, hel2, by simp; lia, hbe3, rfl, rfl, rfl, rfl⟩
               rw [List.map_append, List.nodup_append]
               refine ⟨hnd, by simp, ?_⟩
               intro x hx y hy
               simp only [List.map_cons, List.map_nil, List.mem_singleton] at hy
               subst hy
               exact fun e9 => hk1 (e9 ▸ hx)
             · intro hbe3 x h8 tk8 g₂ F1 R1 U1
               obtain ⟨n'', rfl⟩ : ∃ k, n' = k + 1 := ⟨n' - 1, by lia⟩
               exact leave_on B2 F1 R1 U1 (fun h'' R5 U5 => exc (by rw [hRg, hdF, if_pos hbe3]) _ _ _ _ FG (raised_sub R5 fun q hq => .tail _ hq) U5) rfl
           · intro hbe2 x h6 tk6 g₂ F1 R1 U1
             exact leave_on B2 F1 R1 U1 (fun h'' R5 U5 => exc (hRc hw hnr hbe2) _ _ _ _ FG (raised_sub R5 fun q hq => .tail _ hq) U5) rfl)
    · rename Fr h₀ L _ m => FG2
      rename News h₀ L _ _ => N2
      have hw : wdF o b e = wEND := by
        rename (_ != _) = false => hq
        simpa using hq
      exact ret kvs _ (hRe hw) hnd _ D ob te _ _ ((D, ob) :: news) (.head _) hbd lo (fun q hq => .tail _ hq) FG2 N2 hlt
  · intro hbe x h5 tk5 g₂ F1 R1 U1
    replace hbe : skF o 2 = enF o (skF o 2) := hbe
    exact leave_on B2 F1 R1 U1 (fun h'' R5 U5 => exc (by rw [hR, hdF, if_pos hbe]) _ _ _ _ FG (raised_sub R5 fun q hq => .tail _ hq) U5) rfl
end
section
open PySem PySem.W PyProof.Rows PySem.Calls
set_option maxRecDepth 100000
def hdO (gl : List (List UInt8 × List UInt8)) : List UInt8 := [80, 55] ++ joinGL gl
/-- the place ahead of the j-th word -/
def hdP (gl : List (List UInt8 × List UInt8)) (j : Nat) : Nat := 2 + (joinGL (gl.take j)).length
theorem hd_step {gl : List (List UInt8 × List UInt8)} {j : Nat} {g l : List UInt8} (hok : GLOk gl) (h : gl[j]? = some (g, l)) :
    ∃ b, skF (hdO gl) (hdP gl j) = b ∧ enF (hdO gl) b = hdP gl (j + 1) ∧ wdF (hdO gl) b (hdP gl (j + 1)) = l ∧ b ≠ hdP gl (j + 1) ∧ hdP gl (j + 1) ≤ (hdO gl).length := by
  obtain ⟨e1, e2⟩ := join_at h
  have hm := hok _ (List.mem_of_getElem? h)
  have e3 : hdO gl = ([80, 55] ++ joinGL (gl.take j)) ++ (g ++ (l ++ joinGL (gl.drop (j + 1)))) := by
    unfold hdO; rw [e1, List.append_assoc]
  have hp : ([80, 55] ++ joinGL (gl.take j)).length = hdP gl j := by
    unfold hdP; simp; lia
  obtain ⟨s1, s2, s3, s4, s5⟩ := word_step e3 hm.1 hm.2 (tail_join fun p hp => hok p (List.mem_of_mem_drop hp))
  rw [hp] at s1 s2 s3 s4
  have hq : hdP gl (j + 1) = hdP gl j + g.length + l.length := by
    unfold hdP; rw [e2]; simp; lia
  refine ⟨_, s1, by rw [s2, hq], by rw [hq]; exact s3, by rw [hq]; lia, ?_⟩
  have e4 := congrArg List.length e3
  simp only [List.length_append] at e4 hp
  rw [e4, hq]; lia
theorem hdP_end {gl : List (List UInt8 × List UInt8)} : hdP gl gl.length = (hdO gl).length := by
  unfold hdP hdO
  rw [List.take_length]; simp; lia
abbrev wODD : List UInt8 := [79, 68, 68]
def evenW : List (List UInt8) := [[87, 73, 68, 84, 72], [72, 69, 73, 71, 72, 84], [68, 69, 80, 84, 72], [77, 65, 88, 86, 65, 76], [84, 85, 80, 76, 84, 89, 80, 69], [79, 68, 68], [69, 78, 68, 72, 68, 82]]
section
variable {gl : List (List UInt8 × List UInt8)} {j n : Nat} {g l g2 l2 : List UInt8} {kvs : List (List UInt8 × List UInt8)}
theorem hw_end (hok : GLOk gl) (h : gl[j]? = some (g, l)) (hl : l = wEND) : hdF (hdO gl) (n + 1) kvs (hdP gl j) = .ok kvs (hdP gl (j + 1)) := by
  obtain ⟨b, h1, h2, h3, h4, -⟩ := hd_step hok h
  have := hd_end (o := hdO gl) (n := n) (i := hdP gl j) (kvs := kvs) (by rw [h1, h2]; exact h4) (by rw [h1, h2, h3]; exact hl)
  rw [this, h1, h2]
theorem hw_range (hok : GLOk gl) (h : gl[j]? = some (g, l)) (hl : l ≠ wEND) (hr : l ∈ kvs.map (·.1) ∨ l = wODD) : hdF (hdO gl) (n + 1) kvs (hdP gl j) = .range := by
  obtain ⟨b, h1, h2, h3, h4, -⟩ := hd_step hok h
  refine hd_range (by rw [h1, h2]; exact h4) (by rw [h1, h2, h3]; exact hl) ?_
  rw [h1, h2, h3]
  rcases hr with h | rfl
  · exact .inl h
  · exact .inr (by decide)
theorem even_names (he : l ∈ evenW) (h1 : l ≠ wEND) (h2 : l ≠ wODD) : ¬ (l ∉ wNames ∧ l ≠ wTT) := by
  rintro ⟨h3, h4⟩
  unfold evenW at he
  simp only [List.mem_cons, List.not_mem_nil, or_false] at he h3
  rcases he with h | h | h | h | h | h | h
  · exact h3 (.inl h)
  · exact h3 (.inr (.inl h))
  · exact h3 (.inr (.inr (.inl h)))
  · exact h3 (.inr (.inr (.inr h)))
  · exact h4 h
  · exact h2 h
  · exact h1 h
theorem hw_go (hok : GLOk gl) (h : gl[j]? = some (g, l)) (h2 : gl[j + 1]? = some (g2, l2)) (he : l ∈ evenW) (hl : l ≠ wEND) (hr : ¬ (l ∈ kvs.map (·.1))) (ho : l ≠ wODD) :
    hdF (hdO gl) (n + 1) kvs (hdP gl j) = hdF (hdO gl) n (kvs ++ [(l, l2)]) (hdP gl (j + 2)) := by
  obtain ⟨b, e1, e2, e3, e4, -⟩ := hd_step hok h
  obtain ⟨b2, f1, f2, f3, f4, -⟩ := hd_step hok h2
  have := hd_go (o := hdO gl) (n := n) (i := hdP gl j) (kvs := kvs) (by rw [e1, e2]; exact e4) (by rw [e1, e2, e3]; exact hl) (by
    rw [e1, e2, e3]
    rintro (h9 | h9)
    · exact hr h9
    · exact even_names he hl ho h9) (by rw [e1, e2, f1, f2]; exact f4)
  rw [this, e1, e2, f1, f2, e3, f3]
theorem hw_cut (hok : GLOk gl) (h : gl[j]? = some (g, l)) (h2 : gl.length = j + 1) (he : l ∈ evenW) (hl : l ≠ wEND) (hr : ¬ (l ∈ kvs.map (·.1))) (ho : l ≠ wODD) :
    hdF (hdO gl) (n + 1) kvs (hdP gl j) = .cut := by
  obtain ⟨b, e1, e2, e3, e4, -⟩ := hd_step hok h
  refine hd_cut (by rw [e1, e2]; exact e4) (by rw [e1, e2, e3]; exact hl) (by
    rw [e1, e2, e3]
    rintro (h9 | h9)
    · exact hr h9
    · exact even_names he hl ho h9) ?_
  rw [e1, e2, ← h2, hdP_end, tail_end.1, tail_end.2]
theorem hw_out (h : gl.length ≤ j) : hdF (hdO gl) (n + 1) kvs (hdP gl j) = .cut := by
  have hp : hdP gl j = (hdO gl).length := by
    rw [← hdP_end]; unfold hdP
    rw [List.take_length, List.take_of_length_le h]
  rw [hp, hdF, if_pos (by rw [tail_end.1, tail_end.2])]
end
/-- what law's own loop has told of a head -/
inductive DueR (prog : Program) (w : World) (news : List (Addr × Obj)) (R : HRes) : Value → Prop
  | cut (t : Tok) : R = .cut → DueR prog w news R (.str ("cut" : Str) t)
  | range (t : Tok) : R = .range → DueR prog w news R (.str ("range" : Str) t)
  | ok {T F : Addr} {fo : Obj} {kvs : List (List UInt8 × List UInt8)} {e : Nat} {te : Tok} : R = .ok kvs e → (T, tupO [.ref F, .int (e : Int) te]) ∈ news → (F, fo) ∈ news → BDict prog w fo kvs → (F == sysModules) = false → DueR prog w news R (.ref T)
end
section
open PySem PySem.W PyProof.Rows PySem.Calls
set_option maxRecDepth 100000
theorem filled23 : Mine.hd.heap_39 = Mine.hd.heap_39 ∧ PySem.Challenge.rw_ok0124_01 = PySem.Challenge.rw_ok0124_01 := by
  k_fill; exact ⟨rfl, rfl⟩
local macro_rules | `(tactic| walk_at "no loop") => `(tactic| ((walk_at "n0"); (walk_at "n4")))
/-- what read_told_head gives back -/
def ToldR (prog : Program) (w : World) (R : HRes) (news : List (Addr × Obj)) (v : Value) (news' : List (Addr × Obj)) : Prop :=
  ∃ kvs e, R = .ok kvs e ∧ (kvs.map (·.1)).Nodup ∧ ∃ t D od te nx, v = .ref t ∧ news' = (t, tupO [.ref D, .int (e : Nat) te]) :: nx ∧ (D, od) ∈ nx ∧ BDict prog w od kvs ∧ (D == sysModules) = false ∧ (∀ q ∈ news, q ∈ nx) ∧ (∀ p ∈ nx, p.1 < t)
set_option maxHeartbeats 8000000 in
theorem body_rth {prog : Program} {w : World} {p : Program} {loose : List Str} {mean : ExcName → Option Value} {mg mb : Str → Option Value} {dp un : Nat} {gd : Option (List Code)} {qual : Str} {f c' co : Addr} {outer : List Env} {A₀ : Around} {base g : Heap} {L' : Addr} {s : Shared}
    {news : List (Addr × Obj)} {oo : Obj} {o : List UInt8} {to : Tok} {R : HRes} {p1 p2 p4 : Pos} {h₁ : Heap} {tk : Nat}
    (B : Below A₀ base outer g) (F : Fr g L' h₁ (fun _ => none)) (X : (Mine.hd.heap_39 w.params).In g) (N : News g L' h₁ news) (T : Top p loose mean mg mb g)
    (ho : (co, oo) ∈ news) (hod : oo.data = .cell (some (.bytes o.toArray to))) (h2 : 2 ≤ o.length) (hos : o.length < 500) (hR : R = hdF o (o.length + 1) [] 2) (hd : dp + 9 < recursionLimit) (hu : un + 80 < cLine) :
    wpAny (model prog w) (ktrTop dp un gd qual (lamS1 "octets" "read_told_head") L' f (.ref c') [(Str.ofString "octets", co)] outer)
      (eval (.Call (.Name (Str.ofString "read_told_head") p1) [.Name (Str.ofString "octets") p2] [] p4) (envX qual (lamS1 "octets" "read_told_head") L' f (.ref c') [(Str.ofString "octets", co)]))
      (BodyQ g L' s (ToldR prog w R news))
      (BodyE base g L' s (envX qual (lamS1 "octets" "read_told_head") L' f (.ref c') [(Str.ofString "octets", co)] :: outer) news (R = .cut) (R = .range))
      { s with heap := h₁, toks := tk } := by
  have N1 : News g L' h₁ ((co, oo) :: news) := fun p hp => (List.mem_cons.mp hp).elim (fun e => e ▸ N _ ho) (N p)
  walk1
  walk1
  walk1
  walk1
  refine nameX_F N1 rfl (.head _) hod ?_
  walk1
  refine ⟨X.keeps F.keep, ?_⟩
  exact rth_spec B F X N T rfl h2 hos hR hd hu
    (fun kvs e h1 hn t D od te h' tk' nx hD hb lo hs F' N' hlt => ⟨h', tk', _, rfl, F', N', kvs, e, h1, hn, t, D, od, te, nx, rfl, rfl, hD, hb, lo, hs, hlt⟩)
    (fun h1 x h' tk' g₂ FG R U => ⟨x, 44, h', tk', g₂, rfl, rfl, FG, R, U, .inl ⟨rfl, h1⟩⟩)
    (fun h1 x h' tk' g₂ FG R U => ⟨x, 56, h', tk', g₂, rfl, rfl, FG, R, U, .inr ⟨rfl, h1⟩⟩)
end
local macro_rules | `(tactic| walk_at "n21") => `(tactic| (fail_if_success (with_reducible show wpAny _ _ (PySem.call (Value.builtin "len") [Value.bytes _ _]) _ _ _)))
section
open PySem PySem.W PyProof.Rows PySem.Calls
set_option maxRecDepth 100000
theorem filled24 : Mine.hd.heap_39 = Mine.hd.heap_39 ∧ PySem.Challenge.rw_ok0124_01 = PySem.Challenge.rw_ok0124_01 := by
  k_fill; exact ⟨rfl, rfl⟩
local macro_rules | `(tactic| walk_at "no loop") => `(tactic| ((fail_if_success (with_reducible show wpAny _ _ (subscriptTail _ _ (Value.ref _) (Value.int _ _)) _ _ _)); (fail_if_success (with_reducible show wpAny _ _ (compareOp .Eq (Value.bytes _ _) (Value.bytes _ _)) _ _ _)); (walk_at "n19"); (fail_if_success (with_reducible show wpAny _ _ (compareOp .Eq (Value.ref _) (Value.str _ _)) _ _ _)); (walk_at "n20"); (fail_if_success (with_reducible show wpAny _ _ (PySem.call (Value.builtin "len") [Value.ref _]) _ _ _)); (walk_at "n21"); (fail_if_success (with_reducible show wpAny _ _ (binaryOp .Add (Value.bytes _ _) (Value.bytes _ _)) _ _ _)); (fail_if_success (with_reducible show wpAny _ _ (PySem.call (Value.builtin "list.append") _) _ _ _)); (walk_at "n12"); (walk_at "n13"); (walk_at "n14"); (walk_at "n15"); (walk_at "n16"); (walk_at "n17"); (walk_at "n8"); (walk_at "n0"); (walk_at "n1"); (walk_at "n2"); (walk_at "n9"); (walk_at "n10"); (walk_at "n6"); (walk_at "n18"); (walk_at "n5"); (walk_at "n7"); (walk_at "n11"); (walk_at "n3")))
local macro_rules | `(tactic| walk_at "callWith ref") => `(tactic| walk_at "s4")
local macro_rules | `(tactic| walk_at "callWith ref") => `(tactic| walk_at "s5")
local macro_rules | `(tactic| walk_at "enterCR") => `(tactic| walk_at "s6")
theorem hl_upd {x src W ES I : Nat} {so0 ot0 : Obj} {rest own : List (Addr × Obj)} (l1 : ∀ p ∈ (src, so0) :: (173, ot0) :: rest, p.1 < x) (hap : ∀ q ∈ (173, ot0) :: rest, q.1 ≠ src)
    (hW : x + 1 < W ∧ x + 1 < ES ∧ W ≠ ES) (hI : own = [] ∨ (I ≠ x + 1 ∧ I ≠ src ∧ I ≠ ES)) (hown : ∀ p ∈ own, p.1 = I ∨ p.1 = W) :
    (∀ oo so wo eo ot, UpdF (x + 1) oo ((x + 1, oo) :: (src, so) :: (W, wo) :: (ES, eo) :: (173, ot) :: (rest ++ own)) (fun o' => (x + 1, o') :: (src, so) :: (W, wo) :: (ES, eo) :: (173, ot) :: (rest ++ own))) ∧
    (∀ oo so wo eo ot, UpdF src so ((x + 1, oo) :: (src, so) :: (W, wo) :: (ES, eo) :: (173, ot) :: (rest ++ own)) (fun o' => (x + 1, oo) :: (src, o') :: (W, wo) :: (ES, eo) :: (173, ot) :: (rest ++ own))) ∧
    (∀ oo so wo eo ot, UpdF ES eo ((x + 1, oo) :: (src, so) :: (W, wo) :: (ES, eo) :: (173, ot) :: (rest ++ own)) (fun o' => (x + 1, oo) :: (src, so) :: (W, wo) :: (ES, o') :: (173, ot) :: (rest ++ own))) := by
  have h9 : 173 < x := l1 _ (.tail _ (.head _))
  have h8 : src < x := l1 _ (.head _)
  obtain ⟨w1, w2, w3⟩ := hW
  have hr : ∀ q ∈ rest, q.1 < x := fun q hq => l1 q (.tail _ (.tail _ hq))
  have how : ∀ q ∈ own, q.1 ≠ x + 1 ∧ q.1 ≠ src ∧ q.1 ≠ ES := by
    intro q hq
    rcases hI with rfl | hI
    · cases hq
    · rcases hown q hq with e | e
      · rw [e]; exact hI
      · rw [e]; exact ⟨Nat.ne_of_gt w1, Nat.ne_of_gt (by lia), w3⟩
  refine ⟨fun oo so wo eo ot => .head ?_, fun oo so wo eo ot => .tail (Nat.ne_of_gt (by lia)) (.head ?_), fun oo so wo eo ot => .tail (Nat.ne_of_lt w2) (.tail (Nat.ne_of_lt (by lia)) (.tail w3 (.head ?_)))⟩
  · intro q hq
    simp only [List.mem_cons, List.mem_append] at hq
    rcases hq with rfl | rfl | rfl | rfl | hq | hq
    · exact Nat.ne_of_lt (by dsimp only; lia)
    · exact Nat.ne_of_gt w1
    · exact Nat.ne_of_gt w2
    · exact Nat.ne_of_lt (by dsimp only; lia)
    · exact Nat.ne_of_lt (Nat.lt_of_lt_of_le (hr q hq) (by lia))
    · exact (how q hq).1
  · intro q hq
    simp only [List.mem_cons, List.mem_append] at hq
    rcases hq with rfl | rfl | rfl | hq | hq
    · exact Nat.ne_of_gt (by dsimp only; lia)
    · exact Nat.ne_of_gt (by dsimp only; lia)
    · exact hap (173, ot0) (.head _)
    · exact hap q (.tail _ hq)
    · exact (how q hq).2.1
  · intro q hq
    simp only [List.mem_cons, List.mem_append] at hq
    rcases hq with rfl | hq | hq
    · exact Nat.ne_of_lt (by dsimp only; lia)
    · exact Nat.ne_of_lt (Nat.lt_of_lt_of_le (hr q hq) (by lia))
    · exact (how q hq).2.2
theorem hl_updW {x src W ES I : Nat} {so0 ot0 : Obj} {rest own : List (Addr × Obj)} (l1 : ∀ p ∈ (src, so0) :: (173, ot0) :: rest, p.1 < x)
    (hW : x + 1 < W ∧ x + 1 < ES ∧ W ≠ ES) (hI : I ≠ W) (hown : ∀ p ∈ own, p.1 = I) :
    (∀ oo so wo eo ot, UpdF W wo ((x + 1, oo) :: (src, so) :: (W, wo) :: (ES, eo) :: (173, ot) :: (rest ++ own)) (fun o' => (x + 1, oo) :: (src, so) :: (W, o') :: (ES, eo) :: (173, ot) :: (rest ++ own))) := by
  have h9 : 173 < x := l1 _ (.tail _ (.head _))
  have h8 : src < x := l1 _ (.head _)
  obtain ⟨w1, w2, w3⟩ := hW
  have hr : ∀ q ∈ rest, q.1 < x := fun q hq => l1 q (.tail _ (.tail _ hq))
  refine fun oo so wo eo ot => .tail (Nat.ne_of_lt w1) (.tail (Nat.ne_of_lt (by lia)) (.head ?_))
  intro q hq
  simp only [List.mem_cons, List.mem_append] at hq
  rcases hq with rfl | rfl | hq | hq
  · exact w3.symm
  · exact Nat.ne_of_lt (by dsimp only; lia)
  · exact Nat.ne_of_lt (Nat.lt_of_lt_of_le (hr q hq) (by lia))
  · rw [hown q hq]; exact hI
theorem append_F {prog : Program} {w : World} {A : Around} {E : Value → Shared → Prop} {s : Shared} {h₀ : Heap} {L D : Addr} {m : Str → Option Value} {news : List (Addr × Obj)} {g : Obj → List (Addr × Obj)} {vs : List Value} {n : Nat} {x : Value} {Q : Value → Shared → Prop}
    (F : Fr h₀ L s.heap m) (N : News h₀ L s.heap news) (U : UpdF D (lstO vs n) news g) (hsz : vs.length < 10000)
    (h : ∀ h', Fr h₀ L h' m → News h₀ L h' (g (lstO (vs ++ [x]) (n + 1))) → Q .none { s with heap := h' }) : wpAny (model prog w) A (call (.builtin "list.append") [.ref D, x]) Q E s := by
  obtain ⟨pre, post, rfl, hg, a, b⟩ := U.split
  have z := N (D, lstO vs n) (List.mem_append.mpr (.inr (.head _)))
  refine append_at (hsz := by rw [sizeLine_eq]; simp; lia) z.1 fun h' hs ho' => h h' (F.change hs z.2.1 z.2.2) ?_
  rw [hg]
  exact News.setIn N a b hs (by simpa using ho')
theorem perm_h {c s t W E D : Addr × Obj} {rest : List (Addr × Obj)} : ∀ q ∈ c :: s :: W :: E :: t :: rest, q ∈ D :: E :: W :: c :: s :: t :: rest := by
  intro q hq
  simp only [List.mem_cons] at hq ⊢
  rcases hq with h | h | h | h | h | h <;> simp [h]
def nameV (v : Value) : Bool := match v with | .bytes g _ => evenW.contains g.toList | _ => false
def stopL (g : List UInt8) : Bool := !g.isEmpty && g.all fun c => !stopC c
def wordV (v : Value) : Bool := match v with | .bytes g _ => stopL g.toList && decide (g.size ≤ 8) | _ => false
theorem wordV_get {v : Value} (h : wordV v = true) : ∃ (g : List UInt8) (t : Tok), v = .bytes g.toArray t ∧ WordOk g ∧ g.length ≤ 8 := by
  unfold wordV at h
  split at h
  · rename_i g t
    simp only [stopL, Bool.and_eq_true, Bool.not_eq_true', decide_eq_true_eq] at h
    obtain ⟨⟨h1, h2⟩, h3⟩ := h
    refine ⟨g.toList, t, by simp, ⟨fun e => by rw [e] at h1; simp at h1, fun c hc => ?_⟩, by simpa using h3⟩
    have := List.all_eq_true.mp h2 c hc
    simpa using this
  · cases h
theorem stopL_ok {g : List UInt8} (h : stopL g = true) : WordOk g := by
  unfold stopL at h
  simp only [Bool.and_eq_true, Bool.not_eq_true'] at h
  refine ⟨fun e => by rw [e] at h; simp at h, fun c hc => ?_⟩
  have := List.all_eq_true.mp h.2 c hc
  simpa using this
theorem evenW_ok {l : List UInt8} (h : l ∈ evenW) : WordOk l ∧ l.length ≤ 8 := by
  have h1 : ∀ l ∈ evenW, stopL l = true ∧ l.length ≤ 8 := by decide
  exact ⟨stopL_ok (h1 l h).1, (h1 l h).2⟩
theorem even_two {ws : List (List UInt8)} {w1 w2 : List UInt8} {j : Nat} (hl : ws.length = 2 * j) (h : ∀ q l, ws[2 * q]? = some l → l ∈ evenW) (h1 : w1 ∈ evenW) : ∀ q l, (ws ++ [w1] ++ [w2])[2 * q]? = some l → l ∈ evenW := by
  intro q l hq
  rw [List.append_assoc] at hq
  by_cases hlt : 2 * q < ws.length
  · rw [List.getElem?_append_left hlt] at hq; exact h q l hq
  · rw [List.getElem?_append_right (by lia)] at hq
    obtain ⟨d, hd⟩ : ∃ d, 2 * q - ws.length = 2 * d := ⟨q - j, by lia⟩
    rw [hd] at hq
    cases d with
    | zero => simp at hq; rw [← hq]; exact h1
    | succ d => rw [List.getElem?_eq_none (by simp; lia)] at hq; cases hq
theorem head_sub {p1 p2 p3 p4 p5 : Addr × Obj} {rest own : List (Addr × Obj)} : (∀ q ∈ p1 :: p2 :: p3 :: p4 :: p5 :: rest, q ∈ p1 :: p2 :: p3 :: p4 :: p5 :: (rest ++ own)) ∧ ∀ q ∈ own, q ∈ p1 :: p2 :: p3 :: p4 :: p5 :: (rest ++ own) := by
  refine ⟨fun q hq => ?_, fun q hq => by simp [hq]⟩
  simp only [List.mem_cons] at hq
  rcases hq with h | h | h | h | h | h <;> simp [h]
theorem head_ne {a1 a2 a3 a4 a5 I : Addr} {o1 o2 o3 o4 o5 q1 q2 q3 q4 q5 : Obj} {rest : List (Addr × Obj)} (h : ∀ p ∈ (a1, o1) :: (a2, o2) :: (a3, o3) :: (a4, o4) :: (a5, o5) :: rest, p.1 ≠ I) :
    ∀ p ∈ (a1, q1) :: (a2, q2) :: (a3, q3) :: (a4, q4) :: (a5, q5) :: rest, p.1 ≠ I := by
  intro p hp
  simp only [List.mem_cons] at hp
  rcases hp with rfl | rfl | rfl | rfl | rfl | hp
  · exact h (a1, o1) (by simp)
  · exact h (a2, o2) (by simp)
  · exact h (a3, o3) (by simp)
  · exact h (a4, o4) (by simp)
  · exact h (a5, o5) (by simp)
  · exact h p (by simp [hp])
def finalsW : List (List (List UInt8)) := [[wEND], [wEND, [57]], [], [[68, 69, 80, 84, 72]]]
theorem pick5N {h₀ h : Heap} {L l1 l2 l3 l4 l5 lo : Addr} {oo : Obj} {t1 t2 t3 t4 t5 : Tok} {R : List (Addr × Obj)} {i : Nat}
    (_ : News h₀ L h ((lo, oo) :: (l5, lstO [.bytes [68, 69, 80, 84, 72].toArray t5] 0) :: (l4, lstO [] 0) :: (l3, lstO [.bytes wEND.toArray t3, .bytes [57].toArray t4] 0) :: (l2, lstO [.bytes wEND.toArray t2] 0) :: (l1, lstO [.bytes wEND.toArray t1] 0) :: R))
    (hi : i < [Value.ref l1, .ref l2, .ref l3, .ref l4, .ref l5].length) :
    ∃ lx vx kx fw, [Value.ref l1, .ref l2, .ref l3, .ref l4, .ref l5][i] = .ref lx ∧
      (lx, lstO vx kx) ∈ (lo, oo) :: (l5, lstO [.bytes [68, 69, 80, 84, 72].toArray t5] 0) :: (l4, lstO [] 0) :: (l3, lstO [.bytes wEND.toArray t3, .bytes [57].toArray t4] 0) :: (l2, lstO [.bytes wEND.toArray t2] 0) :: (l1, lstO [.bytes wEND.toArray t1] 0) :: R ∧ ByV vx fw ∧ fw ∈ finalsW := by
  rcases i with _ | _ | _ | _ | _ | i
  · exact ⟨_, _, _, _, rfl, .tail _ (.tail _ (.tail _ (.tail _ (.tail _ (.head _))))), .cons _ .nil, by decide⟩
  · exact ⟨_, _, _, _, rfl, .tail _ (.tail _ (.tail _ (.tail _ (.head _)))), .cons _ .nil, by decide⟩
  · exact ⟨_, _, _, _, rfl, .tail _ (.tail _ (.tail _ (.head _))), .cons _ (.cons _ .nil), by decide⟩
  · exact ⟨_, _, _, _, rfl, .tail _ (.tail _ (.head _)), .nil, by decide⟩
  · exact ⟨_, _, _, _, rfl, .tail _ (.head _), .cons _ .nil, by decide⟩
  · exfalso; simp only [List.length_cons, List.length_nil] at hi; lia
theorem ne_objs {h : Heap} {a b : Addr} {o1 o2 : Obj} (h1 : h.get? a = some o1) (h2 : h.get? b = some o2) (hne : o1 ≠ o2) : a ≠ b := by
  rintro rfl
  rw [h1] at h2
  exact hne (Option.some.inj h2)
theorem perm_i {c s t W W2 E p0 p1 p2 p3 p4 p5 : Addr × Obj} {rest : List (Addr × Obj)} : ∀ q ∈ c :: s :: W2 :: E :: t :: rest, q ∈ W2 :: p0 :: p5 :: p4 :: p3 :: p2 :: p1 :: c :: s :: W :: E :: t :: rest := by
  intro q hq
  simp only [List.mem_cons] at hq ⊢
  rcases hq with h | h | h | h | h | h <;> simp [h]
theorem finals_ok {fw : List (List UInt8)} (h : fw ∈ finalsW) : (∀ l ∈ fw, WordOk l ∧ l.length ≤ 8) ∧ (∀ l, fw[0]? = some l → l ∈ evenW) ∧ fw.length ≤ 2 := by
  unfold finalsW at h
  simp only [List.mem_cons, List.not_mem_nil, or_false] at h
  rcases h with rfl | rfl | rfl | rfl
  · exact ⟨fun l hl => by rw [List.mem_singleton.mp hl]; exact ⟨stopL_ok (by decide), by decide⟩, fun l hl => by simp at hl; rw [← hl]; decide, by decide⟩
  · refine ⟨fun l hl => ?_, fun l hl => by simp at hl; rw [← hl]; decide, by decide⟩
    rcases List.mem_cons.mp hl with rfl | hl
    · exact ⟨stopL_ok (by decide), by decide⟩
    · rw [List.mem_singleton.mp hl]; exact ⟨stopL_ok (by decide), by decide⟩
  · exact ⟨(fun l hl => nomatch hl), (fun l hl => nomatch hl), by decide⟩
  · exact ⟨fun l hl => by rw [List.mem_singleton.mp hl]; exact ⟨stopL_ok (by decide), by decide⟩, fun l hl => by simp at hl; rw [← hl]; decide, by decide⟩
theorem even_fin {ws fw : List (List UInt8)} {j : Nat} (hl : ws.length = 2 * j) (h : ∀ q l, ws[2 * q]? = some l → l ∈ evenW) (h1 : ∀ l, fw[0]? = some l → l ∈ evenW) (h2 : fw.length ≤ 2) : ∀ q l, (ws ++ fw)[2 * q]? = some l → l ∈ evenW := by
  intro q l hq
  by_cases hlt : 2 * q < ws.length
  · rw [List.getElem?_append_left hlt] at hq; exact h q l hq
  · rw [List.getElem?_append_right (by lia)] at hq
    obtain ⟨d, hd⟩ : ∃ d, 2 * q - ws.length = 2 * d := ⟨q - j, by lia⟩
    rw [hd] at hq
    cases d with
    | zero => exact h1 l hq
    | succ d => rw [List.getElem?_eq_none (by lia)] at hq; cases hq
theorem ByV.app {vs us : List Value} {ls ks : List (List UInt8)} (h : ByV vs ls) (k : ByV us ks) : ByV (vs ++ us) (ls ++ ks) := by
  induction h with
  | nil => exact k
  | cons t _ ih => exact .cons t ih
def headGaps : List (List UInt8) := [[32], [10], [35, 120, 10], [9, 32]]
theorem headGaps_ok : ∀ g ∈ headGaps, GapOk g ∧ g.length ≤ 3 := by
  intro g hg
  refine ⟨?_, (by decide : ∀ g ∈ headGaps, g.length ≤ 3) g hg⟩
  unfold headGaps at hg
  simp only [List.mem_cons, List.not_mem_nil, or_false] at hg
  rcases hg with rfl | rfl | rfl | rfl <;>
    (refine gap_of ⟨_, _, rfl, by decide⟩ fun x hx => ?_; simp [skL, skR, isBl, hx])
def hgapV (v : Value) : Bool := match v with | .bytes g _ => headGaps.contains g.toList | _ => false
theorem hgapV_get {v : Value} (h : hgapV v = true) : ∃ (g : List UInt8) (t : Tok), v = .bytes g.toArray t ∧ g ∈ headGaps := by
  unfold hgapV at h
  split at h
  · rename_i g t
    exact ⟨g.toList, t, by simp, by simpa using h⟩
  · cases h
/-- the ends of the words so far -/
def EndsA (evs : List Value) (gl : List (List UInt8 × List UInt8)) : Prop := evs.length = gl.length ∧ ∀ (i : Nat) (v : Value), evs[i]? = some v → ∃ t, v = Value.int ((hdP gl (i + 1) : Nat) : Int) t
theorem hdO_snoc {gl : List (List UInt8 × List UInt8)} {g l : List UInt8} : hdO (gl ++ [(g, l)]) = hdO gl ++ g ++ l := by
  unfold hdO; rw [joinGL_append]; simp [joinGL]
theorem EndsA.snoc {evs : List Value} {gl : List (List UInt8 × List UInt8)} {g l : List UInt8} {t : Tok} (h : EndsA evs gl) : EndsA (evs ++ [Value.int ((hdO gl ++ g ++ l).length : Nat) t]) (gl ++ [(g, l)]) := by
  refine ⟨by simp [h.1], fun i v hv => ?_⟩
  by_cases hi : i < evs.length
  · rw [List.getElem?_append_left hi] at hv
    obtain ⟨t', e⟩ := h.2 i v hv
    refine ⟨t', ?_⟩
    rw [e]
    unfold hdP
    rw [List.take_append_of_le_length (by rw [← h.1]; lia)]
  · rw [List.getElem?_append_right (by lia)] at hv
    have hi2 : i = evs.length := by
      obtain ⟨h9, -⟩ := List.getElem?_eq_some_iff.mp hv
      simp at h9; lia
    rw [hi2, Nat.sub_self] at hv
    simp only [List.getElem?_cons_zero, Option.some.injEq] at hv
    refine ⟨t, ?_⟩
    rw [← hv, hi2, h.1, ← hdO_snoc, ← hdP_end]
    simp
theorem hdO_len : ∀ {gl : List (List UInt8 × List UInt8)}, (∀ p ∈ gl, p.1.length ≤ 3 ∧ p.2.length ≤ 8) → (hdO gl).length ≤ 2 + 11 * gl.length := by
  intro gl h
  have : (joinGL gl).length ≤ 11 * gl.length := by
    induction gl with
    | nil => exact Nat.le_refl _
    | cons p r ih =>
      have h1 := ih fun p hp => h p (.tail _ hp)
      have h2 := h _ (.head _)
      obtain ⟨g, l⟩ := p
      simp only [joinGL, List.length_append, List.length_cons] at h2 ⊢
      lia
  unfold hdO
  simp only [List.length_append, List.length_cons, List.length_nil]
  lia
/-- what a turn of the head's second loop finds -/
inductive HeadK (x src W2 ES : Nat) (wo : Obj) (rest : List (Addr × Obj)) (ws : List (List UInt8)) (j : Nat) (m₁ : Str → Option Value) (nx : List (Addr × Obj)) : Prop
  | mk (a b : Int) (ta tb : Tok) (n : Nat) (oo : Obj) (to : Tok) (gl : List (List UInt8 × List UInt8)) (evs : List Value) (ne : Nat) :
    nx = (x + 1, oo) :: (src, srcO a b ta tb n) :: (W2, wo) :: (ES, lstO evs ne) :: (173, tabObj #[]) :: rest → 0 ≤ a → 0 ≤ b → b < 2147483647 →
    gl.length = j → GLOk gl → (∀ p ∈ gl, p.1.length ≤ 3 ∧ p.2.length ≤ 8) → gl.map (·.2) = ws.take j → oo.data = .cell (some (.bytes (hdO gl).toArray to)) → EndsA evs gl →
    m₁ "words" = some (.ref W2) → m₁ "ends" = some (.ref ES) → m₁ "source" = some (.ref src) → HeadK x src W2 ES wo rest ws j m₁ nx
theorem hdO_ge {gl : List (List UInt8 × List UInt8)} (h : GLOk gl) : gl.length + 2 ≤ (hdO gl).length := by
  have : gl.length ≤ (joinGL gl).length := by
    induction gl with
    | nil => exact Nat.le_refl _
    | cons p r ih =>
      have h1 := ih fun p hp => h p (.tail _ hp)
      have h2 := List.length_pos_iff.mpr (h _ (.head _)).2.1
      obtain ⟨g, l⟩ := p
      simp only [joinGL, List.length_append, List.length_cons] at h2 ⊢
      lia
  unfold hdO
  simp only [List.length_append, List.length_cons, List.length_nil]
  lia
/-- the head's while, still on its way -/
inductive HeadA (prog : Program) (w : World) (x src W2 ES : Nat) (oo so wo eo : Obj) (rest : List (Addr × Obj)) (gl : List (List UInt8 × List UInt8)) (R : HRes) (n : Nat) (m₁ : Str → Option Value) (R' : List (Addr × Obj)) (dv : Value) : Prop
  | mk (F : Addr) (fo : Obj) (kvs : List (List UInt8 × List UInt8)) (q : Nat) (ta t : Tok) : n = 20 - q → 2 * q ≤ gl.length + 1 → R' = (F, fo) :: (x + 1, oo) :: (src, so) :: (W2, wo) :: (ES, eo) :: rest → (∀ p ∈ (x + 1, oo) :: (src, so) :: (W2, wo) :: (ES, eo) :: rest, p.1 ≠ F) → BDict prog w fo kvs → (F == sysModules) = false → kvs.length ≤ q →
    R = hdF (hdO gl) ((hdO gl).length + 1 - q) kvs (hdP gl (2 * q)) → dv = .str ("cut" : Str) t → m₁ "found" = some (.ref F) → m₁ "at" = some (.int ((2 * q : Nat) : Int) ta) → m₁ "ends" = some (.ref ES) → HeadA prog w x src W2 ES oo so wo eo rest gl R n m₁ R' dv
/-- what a turn of the head's while finds -/
inductive HeadW (prog : Program) (w : World) (x src W2 ES : Nat) (oo so wo eo : Obj) (rest : List (Addr × Obj)) (gl : List (List UInt8 × List UInt8)) (R : HRes) (n : Nat) (m₁ : Str → Option Value) (nx : List (Addr × Obj)) : Prop
  | mk (R' : List (Addr × Obj)) (dv : Value) : nx = (173, tabObj #[]) :: R' → (∀ q ∈ R', q.1 ≠ 173) → (x + 1, oo) ∈ R' → (∀ q ∈ (src, so) :: rest, q ∈ R') → (W2, wo) ∈ R' → m₁ "due" = some dv → m₁ "words" = some (.ref W2) →
    (HeadA prog w x src W2 ES oo so wo eo rest gl R n m₁ R' dv ∨
      (n = 0 ∧ DueR prog w R' R dv ∧ (∀ t, dv ≠ .str ("cut" : Str) t) ∧ ∃ v ta, m₁ "at" = some (.int v ta) ∧ 0 ≤ v ∧ v ≤ 100)) → HeadW prog w x src W2 ES oo so wo eo rest gl R n m₁ nx
inductive HeadP (prog : Program) (w : World) (x src : Nat) (oo so : Obj) (rest : List (Addr × Obj)) (R : HRes) (m₁ : Str → Option Value) (nx : List (Addr × Obj)) : Prop
  | mk (R' : List (Addr × Obj)) (dv : Value) : nx = (173, tabObj #[]) :: R' → (∀ q ∈ R', q.1 ≠ 173) → (x + 1, oo) ∈ R' → (∀ q ∈ (src, so) :: rest, q ∈ R') → m₁ "due" = some dv → DueR prog w R' R dv → HeadP prog w x src oo so rest R m₁ nx
theorem pin5 {m : Str → Option Value} {a b c d e : Str} {va vb vc vd ve : Value} (ha : m a = some va) (hb : m b = some vb) (hc : m c = some vc) (hd : m d = some vd) (he : m e = some ve) : ∃ u : Str → Option Value, m = fun y => if y = a then some va else if y = b then some vb else if y = c then some vc else if y = d then some vd else if y = e then some ve else u y := by
  obtain ⟨u, h⟩ := pin4 hb hc hd he
  refine ⟨u, ?_⟩
  funext y; by_cases h9 : y = a
  · subst h9; simp [ha]
  · rw [if_neg h9]; exact congrFun h y
theorem nameIt9 {P : Nat → Prop} {x : Nat} (h : P x) : ∃ x0, x0 = x ∧ P x0 := ⟨x, rfl, h⟩
theorem eqb_lit {prog : Program} {w : World} {A : Around} {E : Value → Shared → Prop} {s : Shared} {l k : List UInt8} {t u : Tok} {Q : Value → Shared → Prop} (h : ∀ b, b = decide (l = k) → Q (.bool b) s) :
    wpAny (model prog w) A (compareOp .Eq (.bytes l.toArray t) (.bytes k.toArray u)) Q E s := eq_bytes (by
  rw [show (l.toArray.toList == k.toArray.toList) = decide (l = k) by rw [Bool.eq_iff_iff]; simp]
  exact h _ rfl)
theorem perm_2 {a b : Addr × Obj} {r : List (Addr × Obj)} : ∀ q ∈ b :: a :: r, q ∈ a :: b :: r := by
  intro q hq
  simp only [List.mem_cons] at hq ⊢
  rcases hq with h | h | h <;> simp [h]
theorem headw_obj {F : Addr} {fo fo2 : Obj} {r : List (Addr × Obj)} (h : ∀ q ∈ (F, fo) :: r, q.1 ≠ 173) : ∀ q ∈ (F, fo2) :: r, q.1 ≠ 173 := fun q hq =>
  (List.mem_cons.mp hq).elim (fun e => e ▸ (h (F, fo) (.head _))) fun e => h q (.tail _ e)
theorem hsr_obj {F c s W E : Addr × Obj} {rest : List (Addr × Obj)} : ∀ q ∈ s :: rest, q ∈ F :: c :: s :: W :: E :: rest := by
  intro q hq
  simp only [List.mem_cons] at hq ⊢
  rcases hq with h | h <;> simp [h]
theorem head_out {f T s : Addr × Obj} {cod R' rest : List (Addr × Obj)} (hsr : ∀ q ∈ s :: rest, q ∈ R') : ∀ q ∈ s :: T :: rest, q ∈ f :: ([] ++ T :: (cod ++ R')) := by
  intro q hq
  simp only [List.mem_cons, List.nil_append, List.mem_append] at hq ⊢
  rcases hq with h | h | h
  · exact .inr (.inr (.inr (hsr q (h ▸ .head _))))
  · exact .inr (.inl h)
  · exact .inr (.inr (.inr (hsr q (.tail _ h))))
theorem headw_173 {x src W2 ES F : Nat} {so0 ot0 oo so wo eo fo : Obj} {rest : List (Addr × Obj)} (l1 : ∀ p ∈ (src, so0) :: (173, ot0) :: rest, p.1 < x) (hap : ∀ q ∈ (173, ot0) :: rest, q.1 ≠ src) (hr : ∀ q ∈ rest, q.1 ≠ 173)
    (hW : x + 1 < W2 ∧ x + 1 < ES ∧ W2 ≠ ES) (hF : 173 < F) : ∀ q ∈ (F, fo) :: (x + 1, oo) :: (src, so) :: (W2, wo) :: (ES, eo) :: rest, q.1 ≠ 173 := by
  have h9 : 173 < x := l1 _ (.tail _ (.head _))
  obtain ⟨w1, w2, -⟩ := hW
  intro q hq
  simp only [List.mem_cons] at hq
  rcases hq with rfl | rfl | rfl | rfl | rfl | hq
  · exact Nat.ne_of_gt hF
  · exact Nat.ne_of_gt (by dsimp only; lia)
  · exact (hap (173, ot0) (.head _)).symm
  · exact Nat.ne_of_gt (by dsimp only; lia)
  · exact Nat.ne_of_gt (by dsimp only; lia)
  · exact hr q hq
theorem headw_F {a1 src W2 ES F : Nat} {oo so wo eo : Obj} {rest : List (Addr × Obj)} (h : a1 < F ∧ src < F ∧ W2 < F ∧ ES < F ∧ 173 < F ∧ AllLt F rest) :
    ∀ p ∈ (a1, oo) :: (src, so) :: (W2, wo) :: (ES, eo) :: rest, p.1 ≠ F := by
  obtain ⟨h1, h2, h3, h4, -, h5⟩ := h
  intro q hq
  simp only [List.mem_cons] at hq
  rcases hq with rfl | rfl | rfl | rfl | hq
  · exact Nat.ne_of_lt h1
  · exact Nat.ne_of_lt h2
  · exact Nat.ne_of_lt h3
  · exact Nat.ne_of_lt h4
  · exact Nat.ne_of_lt (allLt_get h5 q hq)
theorem perm_j {c s t W E D F : Addr × Obj} {rest : List (Addr × Obj)} : ∀ q ∈ t :: F :: c :: s :: W :: E :: rest, q ∈ D :: F :: c :: s :: W :: E :: t :: rest := by
  intro q hq
  simp only [List.mem_cons] at hq ⊢
  rcases hq with h | h | h | h | h | h | h <;> simp [h]
theorem nameV_get {v : Value} (h : nameV v = true) : ∃ (g : List UInt8) (t : Tok), v = .bytes g.toArray t ∧ g ∈ evenW := by
  unfold nameV at h
  split at h
  · rename_i g t
    exact ⟨g.toList, t, by simp, by simpa using h⟩
  · cases h
/-- what a turn of the head's first loop finds -/
inductive HeadJ (x src ES : Nat) (oo eo : Obj) (rest : List (Addr × Obj)) (j : Nat) (m₁ : Str → Option Value) (nx : List (Addr × Obj)) : Prop
  | mk (a b : Int) (ta tb : Tok) (n : Nat) (W : Addr) (vs : List Value) (nw : Nat) (ws : List (List UInt8)) :
    nx = (x + 1, oo) :: (src, srcO a b ta tb n) :: (W, lstO vs nw) :: (ES, eo) :: (173, tabObj #[]) :: rest → 0 ≤ a → 0 ≤ b → b < 2147483647 → (x + 1 < W ∧ x + 1 < ES ∧ W ≠ ES) →
    ByV vs ws → ws.length = 2 * j → (∀ l ∈ ws, WordOk l ∧ l.length ≤ 8) → (∀ q l, ws[2 * q]? = some l → l ∈ evenW) →
    m₁ "words" = some (.ref W) → m₁ "ends" = some (.ref ES) → m₁ "source" = some (.ref src) → HeadJ x src ES oo eo rest j m₁ nx
theorem lt_H {x W ES : Nat} {P : Prop} (h : W < ES ∧ x + 1 < ES ∧ P) (h1 : x + 1 < W) : x + 1 < W ∧ x + 1 < ES ∧ W ≠ ES := ⟨h1, h.2.1, Nat.ne_of_lt h.1⟩
set_option maxHeartbeats 8000000 in
theorem head_spec {prog : Program} {w : World} {p : Program} {loose : List Str} {mean : ExcName → Option Value} {mg mb : Str → Option Value} {dp un : Nat} {gd : Option (List Code)} {cn : Str} {cs : Scope} {fa : Addr} {ccd : Value} {cl : List (Str × Addr)} {A₀ : Around} {base : Heap} {L : Addr} {m : Str → Option Value} {s : Shared} {Q E : Value → Shared → Prop}
    {rest : List (Addr × Obj)} {src : Addr} {a b : Int} {ta tb : Tok} {n : Nat}
    (B : Below A₀ base [] base) (F : Fr base L s.heap m) (X : (Mine.hd.heap_39 w.params).In base) (N : News base L s.heap ((src, srcO a b ta tb n) :: (173, tabObj #[]) :: rest)) (T : Top p loose mean mg mb base) (hk : cs.kind = .function)
    (C : CodeHd base 177 173) (hap : ∀ q ∈ (173, tabObj #[]) :: rest, q.1 ≠ src) (hr173 : ∀ q ∈ rest, q.1 ≠ 173) (ha : 0 ≤ a) (hb : 0 ≤ b ∧ b < 2147483647) (hd : dp + 20 < recursionLimit) (hu : un + 300 < cLine)
    (ret : ∀ a' b' ta' tb' n' ps' h' tk', 0 ≤ a' → 0 ≤ b' → b' < 2147483647 → Fr base L h' m → News base L h' ((src, srcO a' b' ta' tb' n') :: (173, tabObj ps') :: rest) → Q (.bool true) { s with heap := h', toks := tk' }) :
    wpAny (model prog w) (ktrTop dp un gd cn cs L fa ccd cl []) (call (.ref 178) [.ref src]) Q E s := by
  refine wpAny_call ?_
  k_dflt (walk_at "enterCR")
  refine noE ?_
  clear F N
  rename Fr _ _ _ (bindL _ _ _) => F1
  rename Frag.In _ _ => X2
  rename Below _ _ _ _ => B2
  rename Top _ _ _ _ _ _ => T2
  rename Fr base L _ m => FG
  rename News _ _ _ _ => N1
  rename (∀ p ∈ _, Prod.fst p < _) => l1
  rename (Obj.data _ = _) => d1
  replace d1 : _ = Data.cell none := d1
  replace F1 : Fr _ _ _ (fun y => if y = ("source" : Str) then some (.ref src) else none) := F1
  refine pk ?_
  intro Pk ik
  obtain ⟨x0, hx0, l0⟩ := nameIt9 (P := fun x => ∀ p ∈ (src, srcO a b ta tb n) :: (173, tabObj #[]) :: rest, p.1 < x) l1
  refine up ik ?_
  clear ik
  subst hx0
  have CH := C
  walk_at "st"
  rename (_ < _ ∧ _ < _ ∧ _ ∧ _ ∧ _ ∧ AllLt _ _) => l2
  clear l2
  rename (_ < _ ∧ _ < _ ∧ _ ∧ _ ∧ AllLt _ _) => l2
  rename Fr _ _ _ (fun y => ite _ _ _) => F1
  rename News _ _ _ _ => N1
  replace N1 := fun q hq => N1 q (perm_h q hq)
  rename (_ < _ ∧ _ ∧ _ ∧ AllLt _ _) => l3
  have hW := lt_H l2 l3.1
  refine pk ?_
  intro Pk ik
  obtain ⟨hU1, hUs, -⟩ := hl_upd (own := []) l0 hap hW (.inl rfl) (fun _ h => nomatch h) (I := 0)
  refine up ik ?_
  clear ik
  simp only [List.append_nil] at hU1 hUs
  k_dflt (refine storeX_C F1 N1 rfl (hU1 _ _ _ _ _) d1 ?_)
  clear F1 N1 d1
  intro h8 o1 F1 N1 d1
  replace N1 : News _ _ _ ((_, o1) :: (src, srcO a b ta tb n) :: (_, lstO [] 0) :: (_, lstO [] 0) :: (173, tabObj #[]) :: rest) := N1
  walk_at "st"
  rename Fr _ _ _ (fun y => ite _ _ _) => F1
  rename News _ _ _ _ => N1
  refine For_F F1 rfl rfl ?_
  walk_at "st"
  refine take_spec B2 F1 X2 N1 T2 rfl (hUs _ _ _ _ _) ha hb (by decide) (by decide) ?_ ?_ ?_
  · walk_at "rm"
  · walk_at "un"
  clear F1 N1
  intro d a1 b1 ta1 tb1 t1 n1 h5 tk5 hd0 hd1 ha1 hb1 hb2 F1 N1
  replace N1 : News _ _ _ ((_, o1) :: (src, srcO a1 b1 ta1 tb1 n1) :: (_, lstO [] 0) :: (_, lstO [] 0) :: (173, tabObj #[]) :: rest) := N1
  obtain ⟨k0, hk0⟩ : ∃ k : Nat, d = (k : Int) := ⟨d.toNat, by lia⟩
  subst hk0
  have hk5 : decide (k0 < 5) = true := by simp; lia
  clear hd0 hd1
  walk_at "st"
  rename Fr _ _ _ (fun y => ite _ _ _) => F1
  rename News _ _ _ _ => N1
  rename IsRange _ _ _ _ _ _ _ _ => r1
  have hk6 : k0 < 5 := of_decide_eq_true hk5
  refine iter_rangeH (n := k0) (HeadJ _ src _ o1 _ rest) rfl r1 (rsm (by lia) (by lia) (by lia)) (by rw [rsz (by lia)]; lia) F1 N1 ⟨a1, b1, ta1, tb1, n1, _, [], _, [], rfl, ha1, hb1, hb2, hW, .nil, rfl, (fun _ h => nomatch h), (fun q l h => by simp at h), rfl, rfl, rfl⟩ ?_ ?_
  · clear F1 N1 r1 ha1 hb1 hb2
    rintro j t m₁ nx h1 tk1 I own hj ⟨a2, b2, ta2, tb2, n2, W, vs, nw, ws, rfl, ha2, hb3, hb4, hW, hvs, hwl, hwo, hwe, hm1, hm2, hm3⟩ hI hio hown F1 N1
    obtain ⟨u, rfl⟩ := pin3 hm1 hm2 hm3
    clear hm1 hm2 hm3
    refine pk ?_
    intro Pk ik
    obtain ⟨hU1, hUs, hUe⟩ := hl_upd (own := own) (I := I) l0 hap hW (.inr ⟨(hI _ (.head _)).symm, (hI _ (.tail _ (.head _))).symm, (hI _ (.tail _ (.tail _ (.tail _ (.head _))))).symm⟩) (fun p hp => .inl (hown p hp))
    refine up ik ?_
    clear ik
    have hUw := hl_updW (own := own) (I := I) l0 hW (hI _ (.tail _ (.tail _ (.head _)))).symm hown
    replace N1 : News _ _ _ ((_, o1) :: (src, srcO a2 b2 ta2 tb2 n2) :: (W, lstO vs nw) :: (_, _) :: (173, tabObj #[]) :: (rest ++ own)) := N1
    walk_at "st"
    rename Fr _ _ _ (fun y => ite _ _ _) => F1
    rename News _ _ _ _ => N1
    rename (_ < _ ∧ _ ∧ _ ∧ _ ∧ _ ∧ AllLt _ _) => l5
    refine one_spec B2 F1 X2 N1 T2 rfl (.tail (Nat.ne_of_gt l5.2.1) (hUs _ _ _ _ _)) (.head _) (Nat.ne_of_gt l5.2.1) ha2 ⟨hb3, hb4⟩ (Nat.le_of_ble_eq_true rfl) (Nat.le_of_ble_eq_true rfl) ?_ ?_ ?_
    · walk_at "rm"
    · walk_at "un"
    clear F1 N1 ha2 hb3 hb4
    intro i hi a3 b3 ta3 tb3 n3 h7 tk7 ha3 hb5 hb6 F1 N1
    refine pk ?_
    intro Pk ik
    obtain ⟨w1, tw1, hv1, hw1⟩ := nameV_get (List.all_eq_true.mp (rfl : List.all _ nameV = true) _ (List.getElem_mem hi))
    refine up ik ?_
    clear ik
    rw [hv1]
    replace N1 := news_drop N1
    replace N1 : News _ _ _ ((_, o1) :: (src, srcO a3 b3 ta3 tb3 n3) :: (W, lstO vs nw) :: (_, _) :: (173, tabObj #[]) :: (rest ++ own)) := N1
    clear hv1 hi l5
    walk_at "st"
    have hvl := hvs.len
    refine append_F F1 N1 (hUw _ _ _ _ _) (by lia) ?_
    clear F1 N1
    intro h8 F1 N1
    walk_at "st"
    rename Fr _ _ _ (fun y => ite _ _ _) => F1
    rename News _ _ _ _ => N1
    rename (_ < _ ∧ _ ∧ _ ∧ _ ∧ _ ∧ AllLt _ _) => l5
    refine one_spec B2 F1 X2 N1 T2 rfl (.tail (Nat.ne_of_gt l5.2.1) (hUs _ _ _ _ _)) (.head _) (Nat.ne_of_gt l5.2.1) ha3 ⟨hb5, hb6⟩ (Nat.le_of_ble_eq_true rfl) (Nat.le_of_ble_eq_true rfl) ?_ ?_ ?_
    · walk_at "rm"
    · walk_at "un"
    clear F1 N1 ha3 hb5 hb6
    intro i hi a4 b4 ta4 tb4 n4 h9 tk9 ha4 hb7 hb8 F1 N1
    refine pk ?_
    intro Pk ik
    obtain ⟨w2, tw2, hv2, hw2⟩ := wordV_get (List.all_eq_true.mp (rfl : List.all _ wordV = true) _ (List.getElem_mem hi))
    refine up ik ?_
    clear ik
    rw [hv2]
    replace N1 := news_drop N1
    replace N1 : News _ _ _ ((_, o1) :: (src, srcO a4 b4 ta4 tb4 n4) :: (W, lstO (vs ++ [.bytes w1.toArray tw1]) _) :: (_, _) :: (173, tabObj #[]) :: (rest ++ own)) := N1
    clear hv2 hi l5
    walk_at "st"
    refine append_F F1 N1 (hUw _ _ _ _ _) (by simp; lia) ?_
    clear F1 N1
    intro h10 F1 N1
    walk_at "st"
    rename Fr _ _ _ (fun y => ite _ _ _) => F1
    rename News _ _ _ _ => N1
    refine ⟨_, _, _, _, _, rfl, F1, N1, head_sub.1, head_sub.2, head_ne hI, a4, b4, ta4, tb4, n4, W, _, _, ws ++ [w1] ++ [w2], rfl, ha4, hb7, hb8, hW, hvs.snoc.snoc, by simp only [List.length_append, List.length_cons, List.length_nil]; lia, ?_, even_two hwl hwe hw1, rfl, rfl, rfl⟩
    intro l hl
    simp only [List.mem_append, List.mem_singleton] at hl
    rcases hl with (hl | rfl) | rfl
    · exact hwo l hl
    · exact evenW_ok hw1
    · exact hw2
  · clear F1 N1 r1 ha1 hb1 hb2
    rintro m₁ nx h1 tk1 ⟨a2, b2, ta2, tb2, n2, W, vs, nw, ws, rfl, ha2, hb3, hb4, hW, hvs, hwl, hwo, hwe, hm1, hm2, hm3⟩ F1 N1
    obtain ⟨u, rfl⟩ := pin3 hm1 hm2 hm3
    clear hm1 hm2 hm3
    refine pk ?_
    intro Pk ik
    obtain ⟨hU1, hUs, hUe⟩ := hl_upd (own := []) (I := 0) l0 hap hW (.inl rfl) (fun _ h => nomatch h)
    refine up ik ?_
    clear ik
    simp only [List.append_nil] at hU1 hUs hUe
    walk_at "st"
    rename Fr _ _ _ (fun y => ite _ _ _) => F1
    rename News _ _ _ _ => N1
    refine one_spec B2 F1 X2 N1 T2 rfl (.tail (ne_objs (N1 _ (.head _)).1 (N1 _ (.tail _ (.tail _ (.tail _ (.tail _ (.tail _ (.tail _ (.tail _ (.head _))))))))).1 (by simp)) (.tail (ne_objs (N1 _ (.tail _ (.head _))).1 (N1 _ (.tail _ (.tail _ (.tail _ (.tail _ (.tail _ (.tail _ (.tail _ (.head _))))))))).1 (by simp)) (.tail (ne_objs (N1 _ (.tail _ (.tail _ (.head _)))).1 (N1 _ (.tail _ (.tail _ (.tail _ (.tail _ (.tail _ (.tail _ (.tail _ (.head _))))))))).1 (by simp)) (.tail (ne_objs (N1 _ (.tail _ (.tail _ (.tail _ (.head _))))).1 (N1 _ (.tail _ (.tail _ (.tail _ (.tail _ (.tail _ (.tail _ (.tail _ (.head _))))))))).1 (by simp)) (.tail (ne_objs (N1 _ (.tail _ (.tail _ (.tail _ (.tail _ (.head _)))))).1 (N1 _ (.tail _ (.tail _ (.tail _ (.tail _ (.tail _ (.tail _ (.tail _ (.head _))))))))).1 (by simp)) (.tail (ne_objs (N1 _ (.tail _ (.tail _ (.tail _ (.tail _ (.tail _ (.head _))))))).1 (N1 _ (.tail _ (.tail _ (.tail _ (.tail _ (.tail _ (.tail _ (.tail _ (.head _))))))))).1 (by simp)) (hUs _ _ _ _ _))))))) (.head _) (ne_objs (N1 _ (.head _)).1 (N1 _ (.tail _ (.tail _ (.tail _ (.tail _ (.tail _ (.tail _ (.tail _ (.head _))))))))).1 (by simp)) ha2 ⟨hb3, hb4⟩ (Nat.le_of_ble_eq_true rfl) (Nat.le_of_ble_eq_true rfl) ?_ ?_ ?_
    · walk_at "rm"
    · walk_at "un"
    clear F1 N1 ha2 hb3 hb4
    intro i hi a3 b3 ta3 tb3 n3 h7 tk7 ha3 hb5 hb6 F1 N1
    refine pk ?_
    intro Pk ik
    obtain ⟨lx, vx, kx, fw, hv, hmem, hby, hfw⟩ := pick5N N1 hi
    refine up ik ?_
    clear ik
    rw [hv]
    refine pk ?_
    intro Pk ik
    obtain ⟨f1, f2, f3⟩ := finals_ok hfw
    refine up ik ?_
    clear ik
    have hvl := hvs.len
    have hxl := hby.len
    clear hv hi hfw
    walk_at "st"
    refine add_listsW F1 N1 (.tail _ (.tail _ (.tail _ (.tail _ (.tail _ (.tail _ (.tail _ (.tail _ (.head _))))))))) hmem (by lia) ?_
    clear hmem F1 N1
    intro W2 c3 h3 F1 N1 hlt2
    replace hlt2 : _ < W2 := hlt2 _ (.tail _ (.tail _ (.tail _ (.tail _ (.tail _ (.tail _ (.tail _ (.tail _ (.tail _ (.head _))))))))))
    have hW2 : _ + 1 < W2 ∧ _ + 1 < _ ∧ W2 ≠ _ := ⟨Nat.lt_trans hW.2.1 hlt2, hW.2.1, Nat.ne_of_gt hlt2⟩
    clear hlt2
    walk_at "st"
    rename Fr _ _ _ (fun y => ite _ _ _) => F1
    rename News _ _ _ _ => N1
    replace N1 : News _ _ _ ((_, o1) :: (src, srcO a3 b3 ta3 tb3 n3) :: (W2, lstO (vs ++ vx) c3) :: (_, lstO [] 0) :: (173, tabObj #[]) :: rest) := fun q hq => N1 q (perm_i q hq)
    replace hvs := hvs.app hby
    have hwo2 : ∀ l ∈ ws ++ fw, WordOk l ∧ l.length ≤ 8 := fun l hl => (List.mem_append.mp hl).elim (hwo l) (f1 l)
    have hwe2 := even_fin hwl hwe f2 f3
    have hwl2 : (ws ++ fw).length ≤ 10 := by rw [List.length_append]; lia
    generalize vs ++ vx = vw at *
    generalize ws ++ fw = ww at *
    clear hby hwo hwe f1 f2 f3 hvl hxl hwl hW hU1 hUs hUe
    have hvwl := hvs.len
    refine For_F F1 rfl rfl ?_
    walk_at "st"
    rename Fr _ _ _ (fun y => ite _ _ _) => F1
    rename News _ _ _ _ => N1
    refine iter_listH (vs := vw) (HeadK _ src W2 _ (lstO vw c3) rest ww) rfl (N1.isList (.tail _ (.tail _ (.head _)))) (N1 _ (.tail _ (.tail _ (.head _)))).2.1 F1 N1 ⟨a3, b3, ta3, tb3, n3, o1, _, [], [], 0, rfl, ha3, hb5, hb6, rfl, (fun _ h => nomatch h), (fun _ h => nomatch h), rfl, d1, ⟨rfl, fun i v h => by simp at h⟩, rfl, rfl, rfl⟩ ?_ ?_
    · clear F1 N1 ha3 hb5 hb6 d1
      rintro j v m₁ nx h1 tk1 I own hv ⟨a2, b2, ta2, tb2, n2, oo, to, gl, evs, ne, rfl, ha2, hb3, hb4, hgl, hgo, hgs, hgw, d1, hev, hm1, hm2, hm3⟩ hI hio hown F1 N1
      refine pk ?_
      intro Pk ik
      obtain ⟨l, tl, hl, rfl⟩ := hvs.at hv
      refine up ik ?_
      clear ik
      obtain ⟨u, rfl⟩ := pin3 hm1 hm2 hm3
      clear hm1 hm2 hm3
      refine pk ?_
      intro Pk ik
      obtain ⟨hU1, hUs, hUe⟩ := hl_upd (own := own) (I := I) l0 hap hW2 (.inr ⟨(hI _ (.head _)).symm, (hI _ (.tail _ (.head _))).symm, (hI _ (.tail _ (.tail _ (.tail _ (.head _))))).symm⟩) hown
      refine up ik ?_
      clear ik
      replace N1 : News _ _ _ ((_, oo) :: (src, srcO a2 b2 ta2 tb2 n2) :: (W2, lstO vw c3) :: (_, lstO evs ne) :: (173, tabObj #[]) :: (rest ++ own)) := N1
      walk_at "st"
      rename Fr _ _ _ (fun y => ite _ _ _) => F1
      rename News _ _ _ _ => N1
      rename (_ < _ ∧ _ ∧ _ ∧ _ ∧ _ ∧ AllLt _ _) => l5
      refine one_spec B2 F1 X2 N1 T2 rfl (.tail (Nat.ne_of_gt l5.2.1) (hUs _ _ _ _ _)) (.head _) (Nat.ne_of_gt l5.2.1) ha2 ⟨hb3, hb4⟩ (Nat.le_of_ble_eq_true rfl) (Nat.le_of_ble_eq_true rfl) ?_ ?_ ?_
      · walk_at "rm"
      · walk_at "un"
      clear F1 N1 ha2 hb3 hb4
      intro i hi a4 b4 ta4 tb4 n4 h7 tk7 ha4 hb5 hb6 F1 N1
      refine pk ?_
      intro Pk ik
      obtain ⟨gg, tgg, hgv, hgm⟩ := hgapV_get (List.all_eq_true.mp (rfl : List.all _ hgapV = true) _ (List.getElem_mem hi))
      refine up ik ?_
      clear ik
      rw [hgv]
      replace N1 := news_drop N1
      replace N1 : News _ _ _ ((_, oo) :: (src, srcO a4 b4 ta4 tb4 n4) :: (W2, lstO vw c3) :: (_, lstO evs ne) :: (173, tabObj #[]) :: (rest ++ own)) := N1
      clear hgv hi l5
      have hjl := hdO_len hgs
      have hlw := hwo2 l (List.mem_of_getElem? hl)
      have hgk := headGaps_ok gg hgm
      have hj10 : j < 10 := by
        have := (List.getElem?_eq_some_iff.mp hl).1
        lia
      walk_at "st"
      refine bytes_add_K (d := hdO gl ++ gg) (by simp only [List.size_toArray]; lia) rfl (fun t' k => ?_)
      walk_at "st"
      refine bytes_add_K (d := hdO gl ++ gg ++ l) (by simp only [List.size_toArray, List.length_append]; lia) rfl (fun t' k => ?_)
      walk_at "st"
      rename Fr _ _ _ (fun y => ite _ _ _) => F1
      rename News _ _ _ _ => N1
      k_dflt (refine storeX_C F1 N1 rfl (hU1 _ _ _ _ _) d1 ?_)
      clear F1 N1 d1
      intro h8 oo2 F1 N1 d1
      replace N1 : News _ _ _ ((_, oo2) :: (src, srcO a4 b4 ta4 tb4 n4) :: (W2, lstO vw c3) :: (_, lstO evs ne) :: (173, tabObj #[]) :: (rest ++ own)) := N1
      walk_at "st"
      refine len_bytes (by simp only [List.size_toArray, List.length_append]; lia) ?_
      rw [List.size_toArray]
      walk_at "st"
      rename Fr _ _ _ (fun y => ite _ _ _) => F1
      rename News _ _ _ _ => N1
      have hel := hev.1
      refine append_F F1 N1 (hUe _ _ _ _ _) (by lia) ?_
      clear F1 N1
      intro h10 F1 N1
      walk_at "st"
      rename Fr _ _ _ (fun y => ite _ _ _) => F1
      rename News _ _ _ _ => N1
      refine ⟨_, _, _, _, _, rfl, F1, N1, head_sub.1, head_sub.2, head_ne hI, a4, b4, ta4, tb4, n4, oo2, _, gl ++ [(gg, l)], _, _, rfl, ha4, hb5, hb6, by simp [hgl], ?_, ?_, ?_, by rw [hdO_snoc]; exact d1, hev.snoc, rfl, rfl, rfl⟩
      · intro p hp
        rcases List.mem_append.mp hp with hp | hp
        · exact hgo p hp
        · rw [List.mem_singleton.mp hp]; exact ⟨hgk.1, hlw.1⟩
      · intro p hp
        rcases List.mem_append.mp hp with hp | hp
        · exact hgs p hp
        · rw [List.mem_singleton.mp hp]; exact ⟨hgk.2, hlw.2⟩
      · rw [List.map_append, hgw, List.take_add_one, hl]; rfl
    · clear F1 N1 ha3 hb5 hb6 d1
      rintro m₁ nx h1 tk1 ⟨a2, b2, ta2, tb2, n2, oo, to, gl, evs, ne, rfl, ha2, hb3, hb4, hgl, hgo, hgs, hgw, d1, hev, hm1, hm2, hm3⟩ F1 N1
      obtain ⟨u, rfl⟩ := pin3 hm1 hm2 hm3
      clear hm1 hm2 hm3
      rw [hvwl, List.take_length] at hgw
      walk_at "st"
      rename Fr _ _ _ (fun y => ite _ _ _) => F1
      rename News _ _ _ _ => N1
      replace N1 := fun q hq => N1 q (perm_j q hq)
      rename (_ == sysModules) = false => lo
      have hbd := bdict_nil ‹Obj.IsDictOf (PySem.strKind prog w) _ _›
      clear ‹Obj.IsDictOf (PySem.strKind prog w) _ _› ‹Obj.IsDictOf (PySem.intKind prog w) _ _›
      rename (_ < _ ∧ _ ∧ _ ∧ _ ∧ _ ∧ _ ∧ AllLt _ _) => l5
      clear l5
      rename (_ < _ ∧ _ ∧ _ ∧ _ ∧ _ ∧ AllLt _ _) => l5
      refine withEq (hdF (hdO gl) ((hdO gl).length + 1) [] 2) fun R hR => ?_
      have hgl2 : gl.length = ww.length := by rw [hgl, hvwl]
      have hge := hdO_ge hgo
      have hle := hdO_len hgs
      refine While_inv3 (HeadW prog w x0 src W2 _ oo (srcO a2 b2 ta2 tb2 n2) (lstO vw c3) (lstO evs ne) rest gl R) (HeadP prog w x0 src oo (srcO a2 b2 ta2 tb2 n2) rest R) F1 N1
        ⟨_, _, rfl, headw_173 l0 hap hr173 hW2 l5.2.2.2.2.1, .tail _ (.head _), (fun q hq => (List.mem_cons.mp hq).elim (fun h => h ▸ .tail _ (.tail _ (.head _))) fun h => .tail _ (.tail _ (.tail _ (.tail _ (.tail _ h))))), .tail _ (.tail _ (.tail _ (.head _))), rfl, rfl,
          .inl ⟨_, _, [], 0, _, _, rfl, by lia, rfl, headw_F l5, hbd, lo, Nat.le_refl _, hR, rfl, rfl, rfl, rfl⟩⟩ ?_ ?_
      · clear F1 N1 l5 lo hbd
        rintro n9 m₁ nx h₁ tk₁ F1 N1 ⟨R', dv, rfl, h173, hoo, hsr, hwo, hm1, hm2, ⟨F, fo, kvs, q, ta9, t9, rfl, hq1, rfl, hF, hbd, lo, hkq, hRq, rfl, hm3, hm4, hm5⟩ | ⟨rfl, hdue, hnc, v9, ta9, hm4, hv9⟩⟩
        · obtain ⟨u, rfl⟩ := pin5 hm1 hm2 hm3 hm4 hm5
          clear hm1 hm2 hm3 hm4 hm5
          walk_at "st"
          refine len_news N1 (.tail _ (.tail _ (.tail _ (.tail _ (.head _))))) (by lia) ?_
          intro tkk htk
          clear htk
          walk_at "st"
          · have hjl : 2 * q < vw.length := by lia
            obtain ⟨v, hv⟩ : ∃ v, vw[2 * q]? = some v := ⟨_, List.getElem?_eq_getElem hjl⟩
            refine pk ?_
            intro Pk ik
            obtain ⟨l, tl, hl, rfl⟩ := hvs.at hv
            refine up ik ?_
            clear ik
            have hg : (gl.map (·.2))[2 * q]? = some l := by rw [hgw]; exact hl
            rw [List.getElem?_map] at hg
            refine pk ?_
            intro Pk ik
            obtain ⟨⟨g9, l9⟩, hg9, hl9⟩ := Option.map_eq_some_iff.mp hg
            refine up ik ?_
            clear ik
            obtain rfl : l9 = l := hl9
            have hev9 := hwe2 q l9 hl
            obtain ⟨k9, hk9⟩ : ∃ k, (hdO gl).length + 1 - q = k + 2 := ⟨(hdO gl).length - 1 - q, by lia⟩
            rw [hk9] at hRq
            clear hg hl hR
            refine item_news N1 (.tail _ (.tail _ (.tail _ (.tail _ (.head _))))) (by lia) (by lia) (by rw [Int.toNat_natCast]; exact hv) ?_
            walk_at "st"
            refine eqb_lit (fun bb hbb => ?_)
            by_cases hw : l9 = wEND
            · obtain rfl : bb = true := by rw [hbb]; exact decide_eq_true hw
              have hRe := hRq.trans (hw_end hgo hg9 hw)
              walk_at "st"
              obtain ⟨v2, hv2⟩ : ∃ v, evs[2 * q]? = some v := ⟨_, List.getElem?_eq_getElem (by rw [hev.1]; lia)⟩
              obtain ⟨t2, rfl⟩ := hev.2 _ _ hv2
              have hsz := Heap.lt_size (N1 _ (.head _)).1
              refine item_news N1 (.tail _ (.tail _ (.tail _ (.tail _ (.tail _ (.head _)))))) (by lia) (by lia) (by rw [Int.toNat_natCast]; exact hv2) ?_
              walk_at "st"
              rename Fr _ _ _ (fun y => ite _ _ _) => F1
              rename News _ _ _ _ => N1
              exact ⟨_, _, _, _, _, rfl, F1, (fun q hq => N1 q (perm_2 q hq)), by lia, _, _, rfl, (fun q hq => (List.mem_cons.mp hq).elim (fun h => h ▸ Nat.ne_of_gt hsz) (h173 q)), .tail _ hoo, (fun q hq => .tail _ (hsr q hq)), .tail _ hwo, rfl, rfl,
                .inr ⟨rfl, .ok hRe (.head _) (.tail _ (.head _)) hbd lo, (fun _ h => nomatch h), _, _, rfl, by lia, by lia⟩⟩
            · obtain rfl : bb = false := by rw [hbb]; exact decide_eq_false hw
              walk_at "st"
              refine item_news N1 (.tail _ (.tail _ (.tail _ (.tail _ (.head _))))) (by lia) (by lia) (by rw [Int.toNat_natCast]; exact hv) ?_
              walk_at "st"
              refine bdict_in N1 (.tail _ (.head _)) hbd lo (fun tk7 => ?_)
              walk_at "st"
              · rename Fr _ _ _ (fun y => ite _ _ _) => F1
                rename News _ _ _ _ => N1
                exact ⟨_, _, _, _, _, rfl, F1, N1, by lia, _, _, rfl, h173, hoo, hsr, hwo, rfl, rfl,
                  .inr ⟨rfl, .range _ (hRq.trans (hw_range hgo hg9 hw (.inl (by assumption)))), (fun _ h => by cases h), _, _, rfl, by lia, by lia⟩⟩
              · rename (¬ _ ∈ _) => hnk
                refine item_news N1 (.tail _ (.tail _ (.tail _ (.tail _ (.head _))))) (by lia) (by lia) (by rw [Int.toNat_natCast]; exact hv) ?_
                walk_at "st"
                refine eqb_lit (fun bb hbb => ?_)
                by_cases ho : l9 = wODD
                · obtain rfl : bb = true := by rw [hbb]; exact decide_eq_true ho
                  walk_at "st"
                  rename Fr _ _ _ (fun y => ite _ _ _) => F1
                  rename News _ _ _ _ => N1
                  exact ⟨_, _, _, _, _, rfl, F1, N1, by lia, _, _, rfl, h173, hoo, hsr, hwo, rfl, rfl,
                    .inr ⟨rfl, .range _ (hRq.trans (hw_range hgo hg9 hw (.inr ho))), (fun _ h => by cases h), _, _, rfl, by lia, by lia⟩⟩
                · obtain rfl : bb = false := by rw [hbb]; exact decide_eq_false ho
                  walk_at "st"
                  refine len_news N1 (.tail _ (.tail _ (.tail _ (.tail _ (.head _))))) (by lia) ?_
                  intro tkk htk
                  clear htk
                  walk_at "st"
                  · have hjl2 : 2 * q + 1 < vw.length := by lia
                    obtain ⟨v2, hv2⟩ : ∃ v, vw[2 * q + 1]? = some v := ⟨_, List.getElem?_eq_getElem hjl2⟩
                    refine pk ?_
                    intro Pk ik
                    obtain ⟨l2, tl2, hl2, rfl⟩ := hvs.at hv2
                    refine up ik ?_
                    clear ik
                    have hg2 : (gl.map (·.2))[2 * q + 1]? = some l2 := by rw [hgw]; exact hl2
                    rw [List.getElem?_map] at hg2
                    refine pk ?_
                    intro Pk ik
                    obtain ⟨⟨g8, l8⟩, hg8, hl8⟩ := Option.map_eq_some_iff.mp hg2
                    refine up ik ?_
                    clear ik
                    obtain rfl : l8 = l2 := hl8
                    refine item_news N1 (.tail _ (.tail _ (.tail _ (.tail _ (.head _))))) (by lia) (by lia) (by rw [show (((2 * q : Nat) : Int) + 1).toNat = 2 * q + 1 by lia]; exact hv2) ?_
                    walk_at "st"
                    refine item_news N1 (.tail _ (.tail _ (.tail _ (.tail _ (.head _))))) (by lia) (by lia) (by rw [Int.toNat_natCast]; exact hv) ?_
                    walk_at "st"
                    replace N1 := fun q hq => N1 q (perm_2 q hq)
                    refine bdict_set F1 N1 (fun p hp => (List.mem_cons.mp hp).elim (fun h => h ▸ (h173 _ (.head _)).symm) (hF p)) hbd hnk (by lia) ?_
                    clear F1 N1
                    intro h7 fo2 tk7 F1 N1 hbd2
                    walk_at "st"
                    rename Fr _ _ _ (fun y => ite _ _ _) => F1
                    rename News _ _ _ _ => N1
                    refine ⟨_, _, _, _, _, rfl, F1, (fun q hq => N1 q (perm_2 q hq)), (by lia : 20 - (q + 1) < 20 - q), _, _, rfl, headw_obj h173, .tail _ (.head _), (fun q hq => hsr_obj q hq), .tail _ (.tail _ (.tail _ (.head _))), rfl, rfl,
                      .inl ⟨_, fo2, _, q + 1, _, _, rfl, by lia, rfl, hF, hbd2, lo, by simp; lia, ?_, rfl, rfl, by rw [show ((2 * (q + 1) : Nat) : Int) = ((2 * q : Nat) : Int) + 2 by lia]; rfl, rfl⟩⟩
                    rw [show (hdO gl).length + 1 - (q + 1) = k9 + 1 by lia]
                    exact hRq.trans (hw_go hgo hg9 hg8 hev9 hw hnk ho)
                  · rename Fr _ _ _ (fun y => ite _ _ _) => F1
                    rename News _ _ _ _ => N1
                    refine ⟨_, _, _, _, _, rfl, F1, N1, (by lia : 20 - (q + 1) < 20 - q), _, _, rfl, h173, hoo, hsr, hwo, rfl, rfl,
                      .inl ⟨_, fo, kvs, q + 1, _, _, rfl, by lia, rfl, hF, hbd, lo, by lia, ?_, rfl, rfl, by rw [show ((2 * (q + 1) : Nat) : Int) = ((2 * q : Nat) : Int) + 2 by lia]; rfl, rfl⟩⟩
                    rw [show (hdO gl).length + 1 - (q + 1) = k9 + 1 by lia, hw_out (by lia)]
                    exact hRq.trans (hw_cut hgo hg9 (by lia) hev9 hw hnk ho)
          · refine ⟨_, _, _, _, rfl, F1, N1, _, _, rfl, h173, hoo, hsr, rfl, .cut _ ?_⟩
            obtain ⟨k9, hk9⟩ : ∃ k, (hdO gl).length + 1 - q = k + 1 := ⟨(hdO gl).length - q, by lia⟩
            rw [hRq, hk9]
            exact hw_out (by lia)
        · obtain ⟨u, rfl⟩ := pin3 hm1 hm2 hm4
          clear hm1 hm2 hm4
          walk_at "st"
          refine len_news N1 (.tail _ hwo) (by lia) ?_
          intro tkk htk
          clear htk
          have hdue2 := hdue
          obtain ⟨t, -⟩ | ⟨t, -⟩ | ⟨-, hT, -⟩ := hdue
          · exact absurd rfl (hnc t)
          · walk_at "st"
            all_goals exact ⟨_, _, _, _, rfl, F1, N1, _, _, rfl, h173, hoo, hsr, rfl, hdue2⟩
          · walk_at "st"
            · refine cmp_ofEq (SeqAt.RcAt.tuple_str _ _ (isTup_of N1 (.tail _ hT)) ?_ prog w _ _ ?_)
              · walk_at "un"
              walk_at "st"
              exact ⟨_, _, _, _, rfl, F1, N1, _, _, rfl, h173, hoo, hsr, rfl, hdue2⟩
            · exact ⟨_, _, _, _, rfl, F1, N1, _, _, rfl, h173, hoo, hsr, rfl, hdue2⟩
      · clear F1 N1 l5 lo hbd
        rintro m₁ nx h₁ tk₁ F1 N1 ⟨R', dv, rfl, h173, hoo, hsr, hm1, hdue⟩
        obtain ⟨u, rfl⟩ := pin1 hm1
        clear hm1
        walk_at "st"
        refine lam_make (fr := []) (cod := []) (rest := R') F1 N1 T2 (CH.keeps FG.keep) rfl (lamTab0 (q := "_law_head_right.<locals>.<lambda>")) h173 (fun q hq => nomatch hq) rfl rfl rfl ?_
        clear F1 N1
        intro f c' oc vs9 t0 ctv h4 tk4 ps1 cod1 I1 hcm hcd hcv F1 N1 hap1 hap21 hlt
        walk_at "st"
        refine told_lam (ToldR prog w R _) (R = .cut) (R = .range) B2 F1 X2 N1 T2 rfl (.head _) (.tail _ (List.mem_append_right _ (.tail _ (List.mem_append_left _ hcm)))) hcd hcv rfl rfl rfl (by decide) ?_ ?_ X T (fun g L₁ L'' h₁ tk B3 F3 N3 X3 T3 => body_rth B3 F3 X3 N3 T3 (.tail _ (.tail _ (List.mem_append_right _ hoo))) d1 (by lia) (by lia) hR ?_ ?_) ?_ ?_
        · walk_at "rm"
        · walk_at "un"
        · walk_at "rm"
        · walk_at "un"
        · rintro v h5 tk5 news' ⟨kvs, e, hRk, hnd, t, D, od, te, nx, rfl, rfl, hD, hbD, loD, hsub, hlt9⟩ F1 N1
          obtain ⟨t9, h9⟩ | ⟨t9, h9⟩ | ⟨hRk2, hT, hFo, hbF, loF⟩ := hdue
          · rw [hRk] at h9; cases h9
          · rw [hRk] at h9; cases h9
          rw [hRk] at hRk2
          injection hRk2 with hk1 hk2
          subst hk1
          subst hk2
          walk_at "st"
          refine tup_dict_eq N1 (.head _) (.tail _ (hsub _ (.tail _ (.tail _ (List.mem_append_right _ hT))))) (.tail _ hD) (.tail _ (hsub _ (.tail _ (.tail _ (List.mem_append_right _ hFo))))) hbD hbF loD loF hnd ?_ ?_
          · walk_at "un"
          walk_at "st"
          have hfin := frBack FG F1 N1
          exact ret a2 b2 ta2 tb2 n2 _ _ _ ha2 hb3 hb4 hfin.1 (fun q hq => hfin.2 q (.tail _ (hsub _ (head_out hsr q hq))))
        · intro h₀1 h5 tk5 t5 r1 hr st1 B2 F1 N1 hfr1
          obtain ⟨hr, rfl⟩ | ⟨hr, rfl⟩ := hr
          · obtain ⟨t9, h9⟩ | ⟨t9, h9⟩ | ⟨hRk2, hT, hFo, hbF, loF⟩ := hdue
            rotate_left
            · rw [hr] at h9; cases h9
            · rw [hr] at hRk2; cases hRk2
            walk_at "st"
            rw [beq_self_eq_true]
            have hfin := frBack (hfr1 _ _ ⟨_, .head _, rfl⟩ FG) F1 N1
            exact ret a2 b2 ta2 tb2 n2 _ _ _ ha2 hb3 hb4 hfin.1 (fun q hq => hfin.2 q (head_out hsr q hq))
          · obtain ⟨t9, h9⟩ | ⟨t9, h9⟩ | ⟨hRk2, hT, hFo, hbF, loF⟩ := hdue
            · rw [hr] at h9; cases h9
            rotate_left
            · rw [hr] at hRk2; cases hRk2
            walk_at "st"
            rw [beq_self_eq_true]
            have hfin := frBack (hfr1 _ _ ⟨_, .head _, rfl⟩ FG) F1 N1
            exact ret a2 b2 ta2 tb2 n2 _ _ _ ha2 hb3 hb4 hfin.1 (fun q hq => hfin.2 q (head_out hsr q hq))
end
section
open PySem PySem.W PyProof.Rows PySem.Calls
set_option maxRecDepth 100000
local macro_rules | `(tactic| walk_at "no loop") => `(tactic| ((walk_at "n1"); (walk_at "n17"); (fail_if_success (with_reducible show wpAny _ _ (PySem.call (Value.ref 113) _) _ _ _)); (walk_at "n9"); (fail_if_success (with_reducible show wpAny _ _ (PySem.call (Value.ref 133) _) _ _ _)); (fail_if_success (with_reducible show wpAny _ _ (PySem.call (Value.ref 166) _) _ _ _)); (fail_if_success (with_reducible show wpAny _ _ (PySem.call (Value.ref 171) _) _ _ _)); (fail_if_success (with_reducible show wpAny _ _ (PySem.call (Value.ref 178) _) _ _ _)); (fail_if_success (with_reducible show wpAny _ _ (PySem.call (Value.ref 183) _) _ _ _)); (walk_at "n21")))
local macro_rules | `(tactic| walk_at "callWith ref") => `(tactic| walk_at "s4")
local macro_rules | `(tactic| walk_at "callWith ref") => `(tactic| walk_at "s5")
/-- what a turn of law's loop finds -/
def LawJ (src : Nat) (o : List UInt8) (j : Nat) (m₁ : Str → Option Value) (nx : List (Addr × Obj)) : Prop :=
  ∃ (a b : Int) (ta tb : Tok) (n : Nat) (to : Tok) (ps : Array Value) (cod : List (Addr × Obj)), nx = (161, tabObj ps) :: (cod ++ (src, srcO a b ta tb n) :: [(180, tabObj #[]), (173, tabObj #[]), (168, tabObj #[])]) ∧
    LamTab "_law_place_right.<locals>.<lambda>" ps cod ∧ (∀ q ∈ cod ++ (src, srcO a b ta tb n) :: [(180, tabObj #[]), (173, tabObj #[]), (168, tabObj #[])], q.1 ≠ 161) ∧
    (∀ q ∈ cod, ∀ r ∈ (src, srcO a b ta tb n) :: [(180, tabObj #[]), (173, tabObj #[]), (168, tabObj #[])], q.1 ≠ r.1) ∧ 0 ≤ a ∧ 0 ≤ b ∧ b < 2147483647 ∧
    m₁ "octets" = some (.bytes o.toArray to) ∧ m₁ "source" = some (.ref src)
theorem law_front {s T : Addr × Obj} {cod t3 own : List (Addr × Obj)} : ∀ q ∈ s :: T :: (cod ++ (t3 ++ own)), q ∈ T :: (cod ++ s :: t3) ++ own := by
  intro q hq
  simp only [List.mem_cons, List.mem_append, List.cons_append] at hq ⊢
  rcases hq with h | h | h | h | h <;> simp [h]
theorem law_back {s T : Addr × Obj} {cod t3 own : List (Addr × Obj)} : ∀ q ∈ T :: (cod ++ s :: (t3 ++ own)), q ∈ s :: T :: (cod ++ (t3 ++ own)) := by
  intro q hq
  simp only [List.mem_cons, List.mem_append] at hq ⊢
  rcases hq with h | h | h | h | h <;> simp [h]
theorem law_apart {src I : Addr} {so so2 ot : Obj} {cod t3 own : List (Addr × Obj)} (hB : ∀ q ∈ cod ++ (src, so) :: t3, q.1 ≠ 161) (hA : ∀ q ∈ cod, ∀ r ∈ (src, so) :: t3, q.1 ≠ r.1) (hI : ∀ p ∈ (161, ot) :: (cod ++ (src, so) :: t3), p.1 ≠ I) (hown : ∀ p ∈ own, p.1 = I)
    (ht : ∀ q ∈ t3, q.1 ≠ src) :
    (∀ q ∈ (161, ot) :: (cod ++ (t3 ++ own)), q.1 ≠ src) ∧ (∀ q ∈ cod ++ (src, so2) :: (t3 ++ own), q.1 ≠ 161) ∧ (∀ q ∈ cod, ∀ r ∈ (src, so2) :: (t3 ++ own), q.1 ≠ r.1) := by
  refine ⟨fun q hq => ?_, fun q hq => ?_, fun q hq r hr => ?_⟩
  · simp only [List.mem_cons, List.mem_append] at hq
    rcases hq with rfl | h | h | h
    · exact (hB (src, so) (by simp)).symm
    · exact hA q h (src, so) (.head _)
    · exact ht q h
    · rw [hown q h]; exact (hI (src, so) (by simp)).symm
  · simp only [List.mem_cons, List.mem_append] at hq
    rcases hq with h | rfl | h | h
    · exact hB q (by simp [h])
    · exact hB (src, so) (by simp)
    · exact hB q (by simp [h])
    · rw [hown q h]; exact (hI (161, ot) (.head _)).symm
  · simp only [List.mem_cons, List.mem_append] at hr
    rcases hr with rfl | h | h
    · exact hA q hq (src, so) (.head _)
    · exact hA q hq r (by simp [h])
    · rw [hown r h]; exact hI q (by simp [hq])
theorem law_end {src I : Addr} {so so1 ot io : Obj} {cod cod1 t3 own : List (Addr × Obj)} {T : Addr × Obj} (hB : ∀ q ∈ cod1 ++ (src, so1) :: (t3 ++ own), q.1 ≠ 161) (hA : ∀ q ∈ cod1, ∀ r ∈ (src, so1) :: (t3 ++ own), q.1 ≠ r.1)
    (hI : ∀ p ∈ (161, ot) :: (cod ++ (src, so) :: t3), p.1 ≠ I) (hio : (I, io) ∈ own) (hT : T.1 = 161) :
    (∀ q ∈ T :: (cod1 ++ (src, so1) :: t3), q ∈ T :: (cod1 ++ (src, so1) :: (t3 ++ own))) ∧ (∀ q ∈ own, q ∈ T :: (cod1 ++ (src, so1) :: (t3 ++ own))) ∧ (∀ q ∈ T :: (cod1 ++ (src, so1) :: t3), q.1 ≠ I) ∧
    (∀ q ∈ cod1 ++ (src, so1) :: t3, q.1 ≠ 161) ∧ (∀ q ∈ cod1, ∀ r ∈ (src, so1) :: t3, q.1 ≠ r.1) := by
  refine ⟨fun q hq => ?_, fun q hq => by simp [hq], fun q hq => ?_, fun q hq => ?_, fun q hq r hr => ?_⟩
  · simp only [List.mem_cons, List.mem_append] at hq ⊢
    rcases hq with h | h | h | h <;> simp [h]
  · simp only [List.mem_cons, List.mem_append] at hq
    rcases hq with rfl | h | rfl | h
    · rw [hT]; exact hI (161, ot) (.head _)
    · exact hA q h (I, io) (by simp [hio])
    · exact hI (src, so) (by simp)
    · exact hI q (by simp [h])
  · simp only [List.mem_cons, List.mem_append] at hq
    rcases hq with h | rfl | h
    · exact hB q (by simp [h])
    · exact hB (src, so1) (by simp)
    · exact hB q (by simp [h])
  · simp only [List.mem_cons] at hr
    rcases hr with rfl | h
    · exact hA q hq (src, so1) (by simp)
    · exact hA q hq r (by simp [h])
theorem law_first {src : Addr} {so ot4 ot3 ot2 ot1 : Obj} (hlt : ∀ p ∈ [((180 : Nat), ot4), (173, ot3), (168, ot2), (161, ot1)], p.1 < src) :
    (∀ q ∈ [((180 : Nat), ot4), (173, ot3), (168, ot2), (161, ot1)], q.1 ≠ src) ∧ (∀ q ∈ [] ++ (src, so) :: [((180 : Nat), ot4), (173, ot3), (168, ot2)], q.1 ≠ 161) ∧ (∀ q ∈ [((180 : Nat), ot4), (173, ot3), (168, ot2)], q.1 ≠ src) := by
  refine ⟨fun q hq => Nat.ne_of_lt (hlt q hq), fun q hq => ?_, fun q hq => Nat.ne_of_lt (hlt q ?_)⟩
  · simp only [List.nil_append, List.mem_cons, List.not_mem_nil, or_false] at hq
    rcases hq with rfl | rfl | rfl | rfl
    · exact Nat.ne_of_gt (hlt (161, ot1) (by simp))
    · exact (by decide : (180 : Nat) ≠ 161)
    · exact (by decide : (173 : Nat) ≠ 161)
    · exact (by decide : (168 : Nat) ≠ 161)
  · simp only [List.mem_cons, List.not_mem_nil, or_false] at hq
    rcases hq with h | h | h <;> simp [h]
theorem law_perm {s a b c d : Addr × Obj} : ∀ q ∈ d :: ([] ++ s :: [a, b, c]), q ∈ [s, a, b, c, d] := by
  intro q hq
  simp only [List.mem_cons, List.nil_append, List.not_mem_nil, or_false] at hq ⊢
  rcases hq with h | h | h | h | h <;> simp [h]
theorem law_row {s T a b c : Addr × Obj} {cod : List (Addr × Obj)} : ∀ q ∈ [s, c, a, b, T], q ∈ T :: (cod ++ s :: [a, b, c]) := by
  intro q hq
  simp only [List.mem_cons, List.mem_append, List.not_mem_nil, or_false] at hq ⊢
  rcases hq with h | h | h | h | h <;> simp [h]
theorem law_r2 {s a b c d : Addr × Obj} : ∀ q ∈ [s, c, a, b, d], q ∈ [s, b, a, c, d] := by
  intro q hq
  simp only [List.mem_cons, List.not_mem_nil, or_false] at hq ⊢
  rcases hq with h | h | h | h | h <;> simp [h]
theorem law_r3 {s a b c d : Addr × Obj} : ∀ q ∈ [s, b, a, c, d], q ∈ [s, a, b, c, d] := by
  intro q hq
  simp only [List.mem_cons, List.not_mem_nil, or_false] at hq ⊢
  rcases hq with h | h | h | h | h <;> simp [h]
theorem law_ne {src a1 a2 a3 a4 : Nat} {o1 o2 o3 o4 : Obj} (h1 : a1 ≠ src) (h2 : a2 ≠ src) (h3 : a3 ≠ src) (h4 : a4 ≠ src) : ∀ q ∈ [(a1, o1), (a2, o2), (a3, o3), (a4, o4)], q.1 ≠ src := by
  intro q hq
  simp only [List.mem_cons, List.not_mem_nil, or_false] at hq
  rcases hq with rfl | rfl | rfl | rfl
  · exact h1
  · exact h2
  · exact h3
  · exact h4
theorem law_ne3 {P a1 a2 a3 : Nat} {o1 o2 o3 : Obj} (h1 : a1 ≠ P) (h2 : a2 ≠ P) (h3 : a3 ≠ P) : ∀ q ∈ [(a1, o1), (a2, o2), (a3, o3)], q.1 ≠ P := by
  intro q hq
  simp only [List.mem_cons, List.not_mem_nil, or_false] at hq
  rcases hq with rfl | rfl | rfl
  · exact h1
  · exact h2
  · exact h3
set_option maxHeartbeats 8000000 in
theorem holds0 : PySem.Challenge.rw_ok0124_01.Holds := Mine.hd (by
  k_go0
  (all_goals try k_fold)
  rename Below _ _ _ _ => B2
  rename Frag.In _ _ => X2
  rename PyProof.Rows.Top _ _ _ _ _ _ => T2
  rename Fr _ _ _ _ => F1
  rename News _ _ _ _ => N1
  have hl63 : List.length _ ≤ 63 := Nat.le_of_not_lt (fun h => ‹¬ ((63 : Nat) : Int) < _› (by exact_mod_cast h))
  rename IntsAre _ _ => hI2
  rename Heap.IsList (ghostOf _ _) _ _ => hls
  rename (180 < _ ∧ _) => l9
  walk_at "st"
  k_dflt (refine pool_spec B2 F1 X2 N1 T2 rfl hls hI2 hl63 ?_ ?_ ?_)
  · walk_at "rm"
  · walk_at "un"
  clear F1 N1
  intro src a b ta tb n h1 tk1 ha hb1 hb2 F1 N1 hlt
  refine pk ?_
  intro Pk ik
  obtain ⟨g1, g2, g3⟩ := law_first (so := srcO a b ta tb n) hlt
  refine up ik ?_
  clear ik
  walk_at "st"
  rename Fr _ _ _ (fun y => ite _ _ _) => F1
  rename News _ _ _ _ => N1
  k_dflt (refine octets_spec B2 F1 X2 N1 T2 rfl g1 ha ⟨hb1, hb2⟩ ?_ ?_ ?_)
  · walk_at "rm"
  · walk_at "un"
  clear F1 N1 ha hb1 hb2 g2
  intro o to a1 b1 ta1 tb1 n1 h2 tk2 ho30 ha hb1 hb2 F1 N1
  refine pk ?_
  intro Pk ik
  obtain ⟨-, g2, -⟩ := law_first (so := srcO a1 b1 ta1 tb1 n1) hlt
  refine up ik ?_
  clear ik
  walk_at "st"
  rename Fr _ _ _ (fun y => ite _ _ _) => F1
  rename News _ _ _ _ => N1
  replace N1 : News _ _ _ ((161, tabObj #[]) :: ([] ++ (src, srcO a1 b1 ta1 tb1 n1) :: [(180, tabObj #[]), (173, tabObj #[]), (168, tabObj #[])])) := fun q hq => N1 q (law_perm q hq)
  refine For_F F1 rfl rfl ?_
  walk_at "st"
  rename Fr _ _ _ (fun y => ite _ _ _) => F1
  rename IsRange _ _ _ _ _ _ _ _ => r1
  rename News _ _ _ _ => N1
  refine iter_rangeH (n := 6) (LawJ src o) rfl r1 (by decide) (by decide) F1 N1 ⟨a1, b1, ta1, tb1, n1, to, #[], [], rfl, lamTab0, g2, (fun q h => nomatch h), ha, hb1, hb2, rfl, rfl⟩ ?_ ?_
  · clear F1 N1 r1 ha hb1 hb2
    rintro j t m₁ nx h3 tk3 I own hj ⟨a2, b2, ta2, tb2, n2, to, ps, cod, rfl, I0, hB, hA, ha, hb1, hb2, hm1, hm2⟩ hI hio hown F1 N1
    obtain ⟨u, rfl⟩ := pin2 hm1 hm2
    clear hm1 hm2
    replace N1 := fun q hq => N1 q (law_front q hq)
    replace N1 : News _ _ _ ((src, srcO a2 b2 ta2 tb2 n2) :: (161, tabObj ps) :: (cod ++ ([(180, tabObj #[]), (173, tabObj #[]), (168, tabObj #[])] ++ own))) := N1
    walk_at "st"
    refine len_bytes (by simp only [List.size_toArray]; lia) ?_
    rw [List.size_toArray]
    walk_at "st"
    k_dflt (refine take_spec B2 F1 X2 N1 T2 rfl (.head (law_apart (so2 := srcO a2 b2 ta2 tb2 n2) hB hA hI hown g3).1) ha ⟨hb1, hb2⟩ (by simp only [List.size_toArray]; lia) (by simp only [List.size_toArray]; lia) ?_ ?_ ?_)
    · walk_at "rm"
    · walk_at "un"
    clear F1 N1 ha hb1 hb2
    intro d a3 b3 ta3 tb3 t3 n3 h4 tk4 hd0 hd1 ha hb1 hb2 F1 N1
    refine pk ?_
    intro Pk ik
    obtain ⟨-, v2, v3⟩ := law_apart (so2 := srcO a3 b3 ta3 tb3 n3) hB hA hI hown g3
    refine up ik ?_
    clear ik
    replace N1 : News _ _ _ ((161, tabObj ps) :: (cod ++ (src, srcO a3 b3 ta3 tb3 n3) :: ([(180, tabObj #[]), (173, tabObj #[]), (168, tabObj #[])] ++ own))) := fun q hq => N1 q (law_back q hq)
    walk_at "st"
    k_dflt (refine place_spec B2 F1 X2 N1 T2 rfl (by assumption) I0 v2 v3 hd0 (by simp only [List.size_toArray] at hd1; lia) (by lia) ?_ ?_ ?_)
    · walk_at "rm"
    · walk_at "un"
    clear F1 N1 I0 v2 v3
    intro h5 tk5 ps1 cod1 I1 F1 N1 v2 v3
    walk_at "st"
    rename Fr _ _ _ (fun y => ite _ _ _) => F1
    rename News _ _ _ _ => N1
    obtain ⟨io, hio⟩ := hio
    refine pk ?_
    intro Pk ik
    obtain ⟨u1, u2, u3, u4, u5⟩ := law_end (T := (161, tabObj ps1)) v2 v3 hI hio rfl
    refine up ik ?_
    clear ik
    exact ⟨_, _, _, _, _, rfl, F1, N1, u1, u2, u3, a3, b3, ta3, tb3, n3, to, ps1, cod1, rfl, I1, u4, u5, ha, hb1, hb2, rfl, rfl⟩
  · clear F1 N1 r1 ha hb1 hb2
    rintro m₁ nx h3 tk3 ⟨a2, b2, ta2, tb2, n2, to, ps, cod, rfl, I0, hB, hA, ha, hb1, hb2, hm1, hm2⟩ F1 N1
    obtain ⟨u, rfl⟩ := pin2 hm1 hm2
    clear hm1 hm2
    have s180 : (180 : Nat) ≠ src := g3 (180, tabObj #[]) (by simp)
    have s173 : (173 : Nat) ≠ src := g3 (173, tabObj #[]) (by simp)
    have s168 : (168 : Nat) ≠ src := g3 (168, tabObj #[]) (by simp)
    have s161 : (161 : Nat) ≠ src := (hB (src, srcO a2 b2 ta2 tb2 n2) (by simp)).symm
    replace N1 : News _ _ _ ((src, srcO a2 b2 ta2 tb2 n2) :: (168, tabObj #[]) :: [(180, tabObj #[]), (173, tabObj #[]), (161, tabObj ps)]) := fun q hq => N1 q (law_row q hq)
    walk_at "st"
    k_dflt (refine row_spec B2 F1 X2 N1 T2 rfl (by assumption) (law_ne s168 s180 s173 s161) (law_ne3 (by decide) (by decide) (by decide)) ha ⟨hb1, hb2⟩ ?_ ?_ ?_)
    · walk_at "rm"
    · walk_at "un"
    clear F1 N1 ha hb1 hb2
    intro a3 b3 ta3 tb3 n3 ps1 h4 tk4 ha hb1 hb2 F1 N1
    replace N1 : News _ _ _ ((src, srcO a3 b3 ta3 tb3 n3) :: (173, tabObj #[]) :: [(180, tabObj #[]), (168, tabObj ps1), (161, tabObj ps)]) := fun q hq => N1 q (law_r2 q hq)
    walk_at "st"
    k_dflt (refine head_spec B2 F1 X2 N1 T2 rfl (by assumption) (law_ne s173 s180 s168 s161) (law_ne3 (by decide) (by decide) (by decide)) ha ⟨hb1, hb2⟩ ?_ ?_ ?_)
    · walk_at "rm"
    · walk_at "un"
    clear F1 N1 ha hb1 hb2
    intro a4 b4 ta4 tb4 n4 ps2 h5 tk5 ha hb1 hb2 F1 N1
    replace N1 : News _ _ _ ((src, srcO a4 b4 ta4 tb4 n4) :: (180, tabObj #[]) :: [(173, tabObj ps2), (168, tabObj ps1), (161, tabObj ps)]) := fun q hq => N1 q (law_r3 q hq)
    walk_at "st"
    k_dflt (refine bits_spec B2 F1 X2 N1 T2 rfl (by assumption) (law_ne s180 s173 s168 s161) (law_ne3 (by decide) (by decide) (by decide)) ha ⟨hb1, hb2⟩ ?_ ?_ ?_)
    · walk_at "rm"
    · walk_at "un"
    clear F1 N1 ha hb1 hb2
    intro ps3 h6 tk6 F1 N1
    iterate 30 (first | (k_unfold; (try dsimp only)) | (walk_at "no loop"; walk1) | (walk_at "no loop"; dsimp only; walk1) | skip)
    · exact goodW_bool F1 (by assumption) (by intro _; rfl) (by first | exact postW_of (X := true) rfl rfl rfl | (refine postW_of (X := true) ?_ ?_ rfl <;> first | rfl | decide | simp) | wrow_post)
    · exact ⟨GrownAt.of N1 (.head _), GrownAt.of N1 (.tail _ (.head _)), GrownAt.of N1 (.tail _ (.tail _ (.head _))), GrownAt.of N1 (.tail _ (.tail _ (.tail _ (.head _)))), trivial⟩)
end
end Mine
end
theorem PySem.Challenge.cw_ok0124_01_holds : PySem.Challenge.rw_ok0124_01.Holds :=
  Mine.holds0
