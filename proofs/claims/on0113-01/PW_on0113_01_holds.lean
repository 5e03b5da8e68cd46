import PyProof.Rows.All
import Wide.All
import OpenK.AllK
import Wide.FinOn
import PySem.Challenge.RW_on0113_01
open PySem PySem.W PyProof.Rows
set_option Elab.async false
set_option linter.unusedVariables false
set_option linter.unusedSimpArgs false
set_option maxRecDepth 100000
set_option maxHeartbeats 8000000
namespace Mine
open_top hd for PySem.Challenge.rw_on0113_01
def lawDef : Stmt := match PySem.Challenge.pw_on0113_01.main.body.getLast? with | some s => s | none => .Pass ⟨0, 0, 0, 0⟩
def lawBody : List Stmt := match lawDef with | .FunctionDef _ _ b _ _ _ _ _ _ _ => b | _ => []
def lawScope : Scope := match lawDef with | .FunctionDef _ _ _ _ _ _ s _ _ _ => s | _ => default
def forBody (s : Stmt) : List Stmt := match s with | .For _ _ b _ _ => b | _ => []
def nth (l : List Stmt) (n : Nat) : Stmt := match l.drop n with | s :: _ => s | [] => .Pass ⟨0, 0, 0, 0⟩
def mainFor : Stmt := nth lawBody 5
def mainTurn : List Stmt := forBody mainFor
def lapFor : Stmt := nth lawBody 7
def lapTurn : List Stmt := forBody lapFor
abbrev lawEnv (L fa : Addr) (cd : Value) : Env := envOfC (Str.ofString "law") lawScope L fa cd
local macro_rules | `(tactic| walk_at $s:str) => `(tactic| k_extra $s)
theorem kfill : (hd.heap_39, PySem.Challenge.rw_on0113_01) = (hd.heap_39, PySem.Challenge.rw_on0113_01) := by
  w_top off
  k_fill
  rfl
section
variable {prog : Program} {w : World} {h₀ : Heap} {L fa : Addr} {cd : Value} {mg mb : Str → Option Value} {mean : ExcName → Option Value} {E : Value → Shared → Prop} {Q : Value → Shared → Prop} {s : Shared} {m : Str → Option Value} {own : List (Addr × Obj)} {lb : Addr} {us : List Value} {n : Nat} {ns : List Int} {k : Int} {tk : Tok} {most : Int} {tm : Tok}
theorem pop0 {A : Around} {news news' : List (Addr × Obj)} {y : Value} {u : Tok} (F : Fr h₀ L s.heap m) (N : News h₀ L s.heap news)
    (U : Upd lb (listOf (y :: us).toArray n) (listOf us.toArray (n + 1)) news news') (hz : us.length ≤ 1000)
    (h : ∀ h', Fr h₀ L h' m → News h₀ L h' news' → Q y { s with heap := h' }) : wpAny (model prog w) A (call (.builtin "list.pop") [.ref lb, .int 0 u]) Q E s := by
  refine kl_popAt (k := 0) (p := []) (q := us) (y := y) F N rfl ?_ rfl U ?_ h
  · unfold seqIndex?
    simp only [List.size_toArray, List.length_cons]
    rw [if_pos]
    · rfl
    · simp only [Bool.and_eq_true, decide_eq_true_eq]
      constructor
      · rw [if_neg (by decide)]; exact Int.le_refl 0
      · rw [if_neg (by decide)]; omega
  · rw [sizeLine_eq]; simp only [List.length_cons]; omega
end
theorem lines_1 : True := by
  k_with "call builtin:list.pop" => ((k_here; k_dflt (refine' pop0 ?F_q9 ?N_q9 ?U_q9 ?z_q9 ?_; (case F_q9 => k_asm); (case N_q9 => k_asm); (case U_q9 => k_upd); (case z_q9 => (have hL9 := IntsAre.length (by assumption)); omega); k_whole); intro h' F' N'; (try dsimp only [List.nil_append, List.cons_append] at N'); (try k_sweep)))
  trivial
section
variable {prog : Program} {w : World} {h₀ : Heap} {L fa : Addr} {cd : Value} {mg mb : Str → Option Value} {mean : ExcName → Option Value} {E : Value → Shared → Prop} {Q : Value → Shared → Prop} {s : Shared} {m : Str → Option Value} {own : List (Addr × Obj)} {lb : Addr} {us : List Value} {n : Nat} {ns : List Int} {k : Int} {tk : Tok} {most : Int} {tm : Tok}
theorem bean_cons
  (X : (hd.heap_39 w.params).In h₀) (T : Top hd.view_39 (looseW hd.view_39 [Str.ofString "GateloomError"]) mean mg mb h₀) (B : Below callerA h₀ [] h₀)
  (F : Fr h₀ L s.heap m)
  (N : News h₀ L s.heap ((lb, listOf (List.toArray (.int k tk :: us)) n) :: own))
  (hoff : OwnOff own [lb]) (hi : IntsAre us ns) (hn : ns.length ≤ 80) (hm : 1 ≤ most ∧ most ≤ 20) (hk : 0 ≤ k ∧ k < 37)
  (h : ∀ h' tk r t n', Fr h₀ L h' m → News h₀ L h' ((lb, listOf us.toArray n') :: own) → 0 ≤ r → r < most → Q (.int r t) { s with heap := h', toks := tk }) :
  wpAny (model prog w) (callerA.deeper (lawEnv L fa cd)) (call (.ref 208) [.ref lb, .int most tm]) Q E s := by
  unfold lawEnv
  conv in (occs := *) lawScope => all_goals whnf
  k_steps
  · exfalso; simp at *
  · (rename News _ _ _ _ => N9)
    exact h _ _ _ _ (n + 1) (by assumption) (kst_newsOf N9 (fun p hp => List.Mem.tail _ hp)) (Int.fmod_nonneg_of_pos _ (by omega)) (Int.fmod_lt_of_pos _ (by omega))
theorem bean_nil
  (X : (hd.heap_39 w.params).In h₀) (T : Top hd.view_39 (looseW hd.view_39 [Str.ofString "GateloomError"]) mean mg mb h₀) (B : Below callerA h₀ [] h₀)
  (F : Fr h₀ L s.heap m)
  (N : News h₀ L s.heap ((lb, listOf (List.toArray []) n) :: own))
  (hm : 1 ≤ most ∧ most ≤ 20)
  (h : ∀ h' tk r t n', Fr h₀ L h' m → News h₀ L h' ((lb, listOf #[] n') :: own) → 0 ≤ r → r < most → Q (.int r t) { s with heap := h', toks := tk }) :
  wpAny (model prog w) (callerA.deeper (lawEnv L fa cd)) (call (.ref 208) [.ref lb, .int most tm]) Q E s := by
  unfold lawEnv
  conv in (occs := *) lawScope => all_goals whnf
  k_steps
  (rename News _ _ _ _ => N9)
  exact h _ _ _ _ n (by assumption) (kst_newsOf N9 (fun p hp => List.Mem.tail _ hp)) (by omega) (by omega)
/-- A call of the drawer: it hands back a number below most and leaves a list of such ints in the beans' place. -/
theorem bean_call
  (X : (hd.heap_39 w.params).In h₀) (T : Top hd.view_39 (looseW hd.view_39 [Str.ofString "GateloomError"]) mean mg mb h₀) (B : Below callerA h₀ [] h₀)
  (F : Fr h₀ L s.heap m)
  (N : News h₀ L s.heap ((lb, listOf us.toArray n) :: own))
  (hoff : OwnOff own [lb]) (hi : IntsAre us ns) (hn : ns.length ≤ 80) (hk : ∀ k ∈ ns, 0 ≤ k ∧ k < 37) (hm : 1 ≤ most ∧ most ≤ 20)
  (h : ∀ h' tk r t us' ns' n', Fr h₀ L h' m → News h₀ L h' ((lb, listOf us'.toArray n') :: own) → IntsAre us' ns' → ns'.length ≤ 80 → (∀ k ∈ ns', 0 ≤ k ∧ k < 37) → 0 ≤ r → r < most → Q (.int r t) { s with heap := h', toks := tk }) :
  wpAny (model prog w) (callerA.deeper (lawEnv L fa cd)) (call (.ref 208) [.ref lb, .int most tm]) Q E s := by
  cases hi with
  | nil => exact bean_nil X T B F N hm fun h' tk r t n' F' N' a b => h h' tk r t [] [] n' F' N' .nil (by simp) (by simp) a b
  | cons k tk hi' =>
    have hk' := hk k (List.mem_cons_self ..)
    simp only [List.length_cons] at hn
    exact bean_cons X T B F N hoff hi' (by omega) hm hk' fun h' tk r t n' F' N' a b => h h' tk r t _ _ n' F' N' hi' (by omega) (fun q hq => hk q (List.mem_cons_of_mem _ hq)) a b
end
theorem nc {h₀ h : Heap} {L : Addr} {Λ l : List (Addr × Obj)} {p : Addr × Obj} (N : News h₀ L h Λ) (m : p ∈ Λ) (N' : News h₀ L h l) : News h₀ L h (p :: l) := fun q hq => (List.mem_cons.mp hq).elim (fun e => e ▸ N _ m) (N' q)
theorem gen_toks {M : Model} {A : Around} {α : Type} {t : Sem α} {Q : α → Shared → Prop} {E : Value → Shared → Prop} {h : Heap} {g : Array GenState} {d : Drawn} {o : OsState} {T : Nat} (k : ∀ tk : Nat, wpAny M A t Q E ⟨h, g, d, tk, o⟩) : wpAny M A t Q E ⟨h, g, d, T, o⟩ := k T
theorem gen_line : True := by
  k_with "execs cons" => ((with_reducible show wpAny _ _ (execs (_ :: _) _) _ _ ⟨_, _, _, _ + _, _⟩); (with_reducible refine gen_toks ?_); intro tk9; (try dsimp only))
  trivial
theorem q3' {x y a : Prop} (h : x ∧ y ∧ a) : a := h.2.2
theorem jar_in {l b0 pre : List Int} {n x : Int} (h1 : l.length ≤ b0.length + pre.length) (h2 : ∀ b ∈ l, (0 : Int) ≤ b ∧ b < 37) :
    (l ++ [x.fmod 37]).length ≤ b0.length + (pre ++ [n]).length ∧ ∀ b ∈ l ++ [x.fmod 37], (0 : Int) ≤ b ∧ b < 37 := by
  refine ⟨by simp only [List.length_append, List.length_cons, List.length_nil]; omega, ?_⟩
  intro b hb
  rcases List.mem_append.mp hb with hb | hb
  · exact h2 b hb
  · rw [List.mem_singleton] at hb
    rw [hb]
    exact ⟨Int.fmod_nonneg_of_pos _ (by omega), Int.fmod_lt_of_pos _ (by omega)⟩
theorem jar_out {l b0 pre q : List Int} {n x : Int} (h0 : b0.length ≤ 9 * pre.length) (h1 : l.length ≤ b0.length + q.length) (h2 : ∀ b ∈ l, (0 : Int) ≤ b ∧ b < 37) (hq : q.length < (9 - 0 : Int).toNat) :
    (l ++ [x.fmod 37]).length ≤ 9 * (pre ++ [n]).length ∧ ∀ b ∈ l ++ [x.fmod 37], (0 : Int) ≤ b ∧ b < 37 := by
  have hq' : q.length < 9 := hq
  have h := (jar_in (n := n) (x := x) h1 h2).2
  refine ⟨by simp only [List.length_append, List.length_cons, List.length_nil]; omega, h⟩
section
variable {prog : Program} {w : World} {h₀ : Heap} {L fa : Addr} {cd : Value} {mg mb : Str → Option Value} {mean : ExcName → Option Value} {E : Value → Shared → Prop} {Q : Value → Shared → Prop} {s : Shared} {m : Str → Option Value} {o : Obj} {a : Addr} {vs : List Value} {ns : List Int}
theorem jar_call
  (X : (hd.heap_39 w.params).In h₀) (T : Top hd.view_39 (looseW hd.view_39 [Str.ofString "GateloomError"]) mean mg mb h₀) (B : Below callerA h₀ [] h₀)
  (GL : Glob 0 mg mb (List.map itemOf (recsOf hd.view_39)) (scalarsOf [] ++ constsW hd.view_39) [] (namesW hd.view_39 [Str.ofString "GateloomError"]) h₀)
  (F : Fr h₀ L s.heap m) (N : News h₀ L s.heap [(L + 1, o)]) (hS : h₀.IsList a vs.toArray) (hi : IntsAre vs ns) (hn : ns.length ≤ 63)
  (h : ∀ h' tk l us ks n, Fr h₀ L h' m → News h₀ L h' [(l, listOf us.toArray n), (L + 1, o)] → L + 1 < l → IntsAre us ks → ks.length ≤ 80 → (∀ k ∈ ks, (0 : Int) ≤ k ∧ k < 37) → Q (.ref l) { s with heap := h', toks := tk }) :
  wpAny (model prog w) (callerA.deeper (lawEnv L fa cd)) (call (.ref 201) [.ref a]) Q E s := by
  k_with "pyIter ref" => (k_of "one" => k_state (fun pre beans => beans.length ≤ 9 * pre.length ∧ ∀ b ∈ beans, 0 ≤ b ∧ b < 37) "beans")
  k_with "pyIter ref" => (k_of "hop" => k_state_given ["beans!"] (fun b0 pre beans left => beans.length ≤ b0.length + pre.length ∧ ∀ b ∈ beans, 0 ≤ b ∧ b < 37) "beans" "left")
  k_with "state" => first | exact jar_in (by assumption) (by assumption) | exact jar_out (by assumption) (by assumption) (by assumption) (by assumption)
  unfold lawEnv
  conv in (occs := *) lawScope => all_goals whnf
  k_steps
  rename News _ _ _ _ => NN
  rename Fr _ _ _ _ => FF
  have hq := q3' (by assumption)
  refine' h _ _ _ _ _ 0 FF ?N hq (by assumption : IntsAre _ (List.take 80 _)) ?a ?b
  case N =>
    intro p hp
    refine NN p ?_
    simp only [List.mem_cons, List.not_mem_nil, or_false] at hp ⊢
    rcases hp with rfl | rfl
    · exact .inl rfl
    · exact .inr (.inr (.inr rfl))
  case a => exact List.length_take_le _ _
  case b => exact fun k hk => (by assumption : ∀ b ∈ _, (0 : Int) ≤ b ∧ b < 37) k (List.mem_of_mem_take hk)
end
def Apart (a b : Nat) : Prop := a ≠ b
theorem Apart.ne {a b : Nat} (h : Apart a b) : a ≠ b := h
theorem Apart.ne' {a b : Nat} (h : Apart a b) : b ≠ a := fun e => h e.symm
section
variable {prog : Program} {w : World} {h₀ : Heap} {L fa : Addr} {A : Around} {E : Value → Shared → Prop} {Q : Value → Shared → Prop} {s : Shared} {m : Str → Option Value} {news : List (Addr × Obj)} {l : Addr} {its : Array Value} {c : Nat} {k : Int} {u : Tok} {v x : Value}
theorem push_get {i : Nat} (h : its[i]? = some v) : (its.push x)[i]? = some v := by
  have hi : i < its.size := (Array.getElem?_eq_some_iff.mp h).1
  rw [Array.getElem?_push, if_neg (by omega)]
  exact h
theorem item0 {value slice : PySem.Expr} (N : News h₀ L s.heap news) (hm : (l, listOf its c) ∈ news) (h0 : 0 ≤ k) (hhi : k < 2 ^ 63) (hx : its[k.toNat]? = some v) (h : Q v s)
    (hs : subscripted slice false (.ref l) (.int k u) = operate [.ref l, .int k u] (getItem (.ref l) (.int k u)) := by with_unfolding_all rfl) :
    wpAny (model prog w) A (subscriptTail value slice (.ref l) (.int k u)) Q E s := by
  have hl : s.heap.IsList l its := ⟨_, (N _ hm).1, rfl, c, rfl⟩
  exact tail_any hl.typeIs slot_list_getitem.lookup (wpAny_getItem_list hl h0 hhi hx h) hs
theorem itemLast {value slice : PySem.Expr} (N : News h₀ L s.heap news) (hm : (l, listOf (its.push v) c) ∈ news) (h : Q v s)
    (hs : subscripted slice false (.ref l) (.int (-1) u) = operate [.ref l, .int (-1) u] (getItem (.ref l) (.int (-1) u)) := by with_unfolding_all rfl) :
    wpAny (model prog w) A (subscriptTail value slice (.ref l) (.int (-1) u)) Q E s := by
  have hl : s.heap.IsList l (its.push v) := ⟨_, (N _ hm).1, rfl, c, rfl⟩
  refine tail_any hl.typeIs slot_list_getitem.lookup (wpAny_getItem_list_neg hl (by decide) (by rw [Array.size_push]; omega) (by decide) ?_ h) hs
  have e : ((-1 : Int) + ((its.push v).size : Int)).toNat = its.size := by rw [Array.size_push]; omega
  rw [e]; simp
theorem lenA (N : News h₀ L s.heap news) (hm : (l, listOf its c) ∈ news) (hz : its.size ≤ 1000) (h : Q (.int (its.size : Int) (s.toks + 1)) { s with toks := s.toks + 1 + 1 }) :
    wpAny (model prog w) A (call (.builtin "len") [.ref l]) Q E s := by
  have hl : s.heap.IsList l its := ⟨_, (N _ hm).1, rfl, c, rfl⟩
  exact len_list hl (by omega) h
end
theorem any_of_at {kvs : List (Str × Value)} {k : Str} : (kvs.any fun kv => decide (kv.1 = k)) = (valueAt kvs k).isSome := by
  unfold valueAt
  induction kvs with
  | nil => rfl
  | cons p r ih =>
    simp only [List.any_cons, List.find?_cons]
    by_cases h : p.1 = k
    · simp [h]
    · simp only [h, decide_false, Bool.false_or]
      exact ih
theorem stored_new {kvs : List (Str × Value)} {k : Str} {v : Value} (h : (valueAt kvs k).isSome = false) : stored kvs k v = kvs ++ [(k, v)] := by
  unfold stored
  rw [any_of_at, h]
  rfl
theorem at_new {kvs : List (Str × Value)} {k : Str} {v : Value} (h : (valueAt kvs k).isSome = false) : valueAt (kvs ++ [(k, v)]) k = some v := by
  unfold valueAt at *
  rw [List.find?_append]
  cases e : kvs.find? (fun kv => decide (kv.1 = k)) with
  | none => simp
  | some z => rw [e] at h; cases h
theorem at_stored {kvs : List (Str × Value)} {k : Str} {v : Value} (h : (valueAt kvs k).isSome = false) : valueAt (stored kvs k v) k = some v := by
  rw [stored_new h]; exact at_new h
section
open PySem.SeqAt
variable {prog : Program} {w : World} {h₀ : Heap} {L fa : Addr} {A : Around} {E : Value → Shared → Prop} {Q : Value → Shared → Prop} {s : Shared} {m : Str → Option Value} {news : List (Addr × Obj)} {t t' : Addr} {vs vs' : List Value} {x y : Value}
abbrev tup (vs : List Value) : Obj := { cls := .type "tuple", data := .seq vs.toArray }
theorem isTuple (N : News h₀ L s.heap news) (hm : (t, tup vs) ∈ news) : s.heap.IsTuple t vs.toArray := ⟨_, (N _ hm).1, rfl, 0, rfl⟩
/-- None is the first of a pair's two items. -/
theorem none_in (N : News h₀ L s.heap news) (hm : (t, tup [.none, .ref t']) ∈ news) (hm' : (t', tup vs) ∈ news) (hu : A.units + 1 < cLine) (h : Q (.bool false) s) :
    wpAny (model prog w) A (compareOp .NotIn .none (.ref t)) Q E s := by
  refine notIn_tupleAt (fun y => y == .none) (isTuple N hm) (fun y hy => ?_) (by simpa using h)
  rcases (by simpa using hy : y = .none ∨ y = .ref t') with rfl | rfl
  · exact EqAt.same _
  · exact EqAt.tuple_none (isTuple N hm') hu
theorem eq_pair {a b c e : Value} (N : News h₀ L s.heap news) (hm : (t, tup [a, b]) ∈ news) (hm' : (t', tup [c, e]) ∈ news) (hu : A.units < cLine) (h1 : EqAt A.in1 s a c true) (h2 : EqAt A.in1 s b e true) : RcAt A s (.ref t) (.ref t') true := by
  have h := RcAt.tuples (e := fun _ => true) (isTuple N hm) (isTuple N hm') hu (fun j hj hj' => by
    have hj2 : j < 2 := by simpa using hj
    rcases (by omega : j = 0 ∨ j = 1) with rfl | rfl
    · exact h1
    · exact h2)
  exact h
theorem ne_pair {a b c e : Value} (N : News h₀ L s.heap news) (hm : (t, tup [a, b]) ∈ news) (hm' : (t', tup [c, e]) ∈ news) (hu : A.units < cLine) (h1 : EqAt A.in1 s a c true) (h2 : EqAt A.in1 s b e true) (h : Q (.bool false) s) :
    wpAny (model prog w) A (compareOp .NotEq (.ref t) (.ref t')) Q E s := by
  have h' := RcNeAt.tuples (e := fun _ => true) (isTuple N hm) (isTuple N hm') hu (fun j hj hj' => by
    have hj2 : j < 2 := by simpa using hj
    rcases (by omega : j = 0 ∨ j = 1) with rfl | rfl
    · exact h1
    · exact h2)
  exact h' prog w E Q h
theorem ne_strRef {a : Str} {u u' : Tok} {b : Addr} (N : News h₀ L s.heap news) (hm : (t, tup [.str a u, .ref b]) ∈ news) (hm' : (t', tup [.str a u', .ref b]) ∈ news) (hu : A.units < cLine) (h : Q (.bool false) s) :
    wpAny (model prog w) A (compareOp .NotEq (.ref t) (.ref t')) Q E s :=
  ne_pair N hm hm' hu (by simpa using EqAt.str_str (A := A.in1) (s := s) a u a u') (EqAt.same _) h
theorem ne_strInt {a : Str} {i : Int} {u u' v v' : Tok} (N : News h₀ L s.heap news) (hm : (t, tup [.str a u, .int i v]) ∈ news) (hm' : (t', tup [.str a u', .int i v']) ∈ news) (hu : A.units < cLine) (h : Q (.bool false) s) :
    wpAny (model prog w) A (compareOp .NotEq (.ref t) (.ref t')) Q E s :=
  ne_pair N hm hm' hu (by simpa using EqAt.str_str (A := A.in1) (s := s) a u a u') (by simpa using EqAt.int_int (A := A.in1) (s := s) i v i v') h
/-- A pair of a text and a number is among None and such a pair. -/
theorem pair_in {r : Addr} {a : Str} {i : Int} {u u' v v' : Tok} (N : News h₀ L s.heap news) (hm : (t, tup [.none, .ref t']) ∈ news) (hm' : (t', tup [.str a u', .int i v']) ∈ news) (hr : (r, tup [.str a u, .int i v]) ∈ news) (hne : t' ≠ r) (hu : A.units + 1 < cLine) (h : Q (.bool false) s) :
    wpAny (model prog w) A (compareOp .NotIn (.ref r) (.ref t)) Q E s := by
  refine notIn_tupleAt (fun y => y == .ref t') (isTuple N hm) (fun y hy => ?_) (by simpa using h)
  rcases (by simpa using hy : y = .none ∨ y = .ref t') with rfl | rfl
  · exact EqAt.none_tuple (isTuple N hr) hu
  · have h3 := EqAt.of_refs (A := A.in1) (s := s) hne (eq_pair N hm' hr hu (by simpa using EqAt.str_str (A := A.in1.in1) (s := s) a u' a u) (by simpa using EqAt.int_int (A := A.in1.in1) (s := s) i v' i v))
    simpa using h3
end
theorem dot_len : (Str.ofString ".").length = 1 := by decide +kernel
theorem nt {b : Bool} (h : b = false) : ¬ b = true := by rw [h]; decide
theorem Apart.of_lt {a b : Nat} (h : @LT.lt Nat _ a b) : Apart a b := Nat.ne_of_lt h
/-- a < b, hidden from omega -/
def LtH (a b : Nat) : Prop := a < b
theorem LtH.of_lt {a b : Nat} (h : @LT.lt Nat _ a b) : LtH a b := h
theorem LtH.ne {a b : Nat} (h : LtH a b) : a ≠ b := Nat.ne_of_lt h
theorem LtH.ne' {a b : Nat} (h : LtH a b) : b ≠ a := Nat.ne_of_gt h
theorem LtH.via {a b c : Nat} (h2 : LtH b c) (h1 : LtH a b) : a ≠ c := Nat.ne_of_lt (Nat.lt_trans h1 h2)
theorem LtH.via' {a b c : Nat} (h2 : LtH b c) (h1 : LtH a b) : c ≠ a := Nat.ne_of_gt (Nat.lt_trans h1 h2)
theorem getItemD {prog : Program} {w : World} {K : Type} [DecidableEq K] {knd : KeyKind prog w K} {A : Around} {E : Value → Shared → Prop} {s : Shared} {h₀ : Heap} {L d : Addr} {news : List (Addr × Obj)} {o : Obj} {kvs : List (K × Value)} {k : K} {key v : Value} {Q : Value → Shared → Prop} (N : News h₀ L s.heap news) (hp : (d, o) ∈ news) (hd : o.IsDictOf knd kvs) (hkey : knd.is k key = true) (hl : valueAt kvs k = some v) (h : Q v { s with toks := s.toks + 1 }) :
    wpAny (model prog w) A (getItem (.ref d) key) Q E s := wpAny_getItem_of hkey (kda_dict N hp hd).mapOf hl h
theorem all_lt {d : Nat} {l : List (Addr × Obj)} (h : AllLt d l) : ∀ p ∈ l, p.1 ≠ d := fun p hp => Nat.ne_of_lt (kst_ltOf h p hp)
theorem all_via {d t : Nat} {l : List (Addr × Obj)} (h2 : LtH t d) (h : AllLt t l) : ∀ p ∈ l, p.1 ≠ d := fun p hp => Nat.ne_of_lt (Nat.lt_trans (kst_ltOf h p hp) h2)
section
open Sem (wp)
/-- every object's own dict stays where it is -/
def DK (h h' : Heap) : Prop := ∀ a o, h.get? a = some o → ∃ o', h'.get? a = some o' ∧ o'.dict = o.dict
theorem DK.refl (h : Heap) : DK h h := fun _ o e => ⟨o, e, rfl⟩
theorem DK.trans {a b c : Heap} (x : DK a b) (y : DK b c) : DK a c := fun q o e =>
  let ⟨o', e', d⟩ := x q o e; let ⟨o'', e'', d'⟩ := y q o' e'; ⟨o'', e'', d'.trans d⟩
theorem DK.update {h : Heap} {a : Addr} {f : Obj → Obj} (hf : ∀ o, (f o).dict = o.dict ∧ (o.isFreed = false → (f o).isFreed = false)) : DK h (h.update a f) := fun b o e => by
  by_cases q : a = b
  · subst q
    exact ⟨f o, Heap.get?_update_self f e ((hf o).2 (Heap.get?_some_iff.mp e).2), (hf o).1⟩
  · exact ⟨o, (Heap.get?_update_other h f q).trans e, rfl⟩
/-- a tree that leaves every object's dict where it is, told of its runs -/
def KeepsD {α : Type} (t : Sem α) : Prop := ∀ (M : Model) Γ (Q : α → Pos → Shared → Prop) E p s, wp M Γ t Q E p s →
  wp M Γ t (fun a p' s' => Q a p' s' ∧ DK s.heap s'.heap) (fun e p' s' => E e p' s' ∧ DK s.heap s'.heap) p s
namespace KeepsD
variable {α β : Type}
theorem pure (a : α) : KeepsD (Pure.pure a : Sem α) := fun _ _ _ _ _ s h => ⟨h, DK.refl s.heap⟩
theorem raise (e : Value) : KeepsD (throw e : Sem α) := fun _ _ _ _ _ s h => ⟨h, DK.refl s.heap⟩
theorem unsupported (x : String) : KeepsD (PySem.unsupported x : Sem α) := fun _ _ _ _ _ _ h => h
theorem bind {m : Sem α} {f : α → Sem β} (hm : KeepsD m) (hf : ∀ a, KeepsD (f a)) : KeepsD (m >>= f) := fun M Γ Q E p s h => by
  rw [Sem.wp_bind'] at h ⊢
  refine Sem.wp_mono M Γ m (fun a p' s' h' => ?_) (fun e p' s' h' => h') p s (hm M Γ _ _ p s h)
  exact Sem.wp_mono M Γ (f a) (fun b p'' s'' z => ⟨z.1, h'.2.trans z.2⟩) (fun e p'' s'' z => ⟨z.1, h'.2.trans z.2⟩) p' s' (hf a M Γ _ _ p' s' h'.1)
theorem load (a : Addr) : KeepsD (PySem.load a) := fun _ _ _ _ _ s ⟨o, ho, h⟩ => ⟨o, ho, h, DK.refl s.heap⟩
theorem stack : KeepsD PySem.stack := fun _ _ _ _ _ s h => ⟨h, DK.refl s.heap⟩
theorem update {a : Addr} {f : Obj → Obj} (hf : ∀ o, (f o).dict = o.dict ∧ (o.isFreed = false → (f o).isFreed = false)) : KeepsD (PySem.update a f) := fun _ _ _ _ _ _ ⟨h1, h2⟩ => ⟨h1, h2, DK.update hf⟩
theorem alloc (o : Obj) : KeepsD (PySem.alloc o) := fun _ _ _ _ _ s h => ⟨h, fun b o' e => ⟨o', Heap.get?_push_of_some _ e, rfl⟩⟩
theorem ite {c : Prop} [Decidable c] {x y : Sem α} (hx : KeepsD x) (hy : KeepsD y) : KeepsD (if c then x else y) := by split <;> assumption
end KeepsD
theorem mapFields_dict (f : Array Value → Array Value) (o : Obj) : (Obj.mapFields f o).dict = o.dict ∧ (o.isFreed = false → (Obj.mapFields f o).isFreed = false) := by
  obtain ⟨c, d, dt, sl⟩ := o
  cases dt <;> exact ⟨rfl, fun h => h⟩
theorem keepsD_fieldsOf (v : Value) : KeepsD (fieldsOf v) := by
  unfold fieldsOf
  split
  · refine .bind (.load _) fun o => ?_
    split
    · exact .pure _
    · exact .unsupported _
  · exact .unsupported _
theorem keepsD_field (v : Value) (i : Nat) : KeepsD (field v i) := by
  unfold field
  refine .bind (keepsD_fieldsOf v) fun vs => ?_
  split
  · exact .pure _
  · exact .unsupported _
theorem keepsD_setField (v : Value) (i : Nat) (x : Value) : KeepsD (setField v i x) := by
  unfold setField
  split
  · unfold updateField
    refine .bind (.load _) fun o => ?_
    split
    · exact .ite (.update fun o => mapFields_dict _ o) (.unsupported _)
    · exact .unsupported _
  · exact .unsupported _
theorem keepsD_setFlight (e : Value) (f : Option Addr) : KeepsD (setFlight e f) := by
  unfold setFlight
  refine .bind (keepsD_field _ _) fun tb => ?_
  split
  · exact keepsD_setField _ _ _
  · exact .pure _
theorem keepsD_keptBack (env : Env) (b : Bool) (l : List Env) : KeepsD (keptBack env b l) := by
  unfold keptBack
  split
  · split
    · exact .pure _
    · unfold underTheClaimsCaller
      exact .bind (.bind .stack fun _ => .pure _) fun _ => .pure _
  · exact .pure _
theorem keepsD_behindIsImport (env : Env) (l : List Env) : KeepsD (behindIsImport env l) := by
  unfold behindIsImport
  split
  · exact .pure _
  · split
    · exact .pure _
    · exact .bind (keepsD_field _ _) fun _ => .pure _
theorem keepsD_readyFrames : ∀ l : List Env, KeepsD (readyFrames l)
  | [] => .pure _
  | env :: outer => by
    unfold readyFrames
    split
    · refine .bind (.load _) fun o => ?_
      split
      · exact .pure _
      · refine .bind (keepsD_behindIsImport _ _) fun _ => .bind (keepsD_keptBack _ _ _) fun _ => .bind (.update fun o => ⟨rfl, fun h => ?_⟩) fun _ => keepsD_readyFrames outer
        obtain ⟨c, d, dt, sl⟩ := o
        cases dt <;> exact h
    · exact .unsupported _
theorem keepsD_frameOf (env : Env) : KeepsD (PySem.frameOf env) := by
  unfold PySem.frameOf
  refine .bind (.bind .stack fun _ => .pure _) fun l => .bind ?_ fun r => ?_
  · unfold frameObject
    split
    · exact .pure _
    · exact .bind (keepsD_readyFrames _) fun _ => .pure _
  · split
    · exact .pure _
    · exact .unsupported _
theorem keepsD_entryPlaceOf (f : Addr) (b : Bool) : KeepsD (entryPlaceOf f b) := by
  unfold entryPlaceOf
  refine .bind .stack fun l => ?_
  split <;> exact .pure _
theorem keepsD_newFields (ty : String) (vs : List Value) : KeepsD (newFields ty vs) := by
  unfold newFields newObj
  dsimp only
  split
  · exact .bind (.unsupported _) fun _ => by
      unfold newObjAsIs
      exact .bind (.alloc _) fun _ => by dsimp only; exact .pure _
  · unfold newObjAsIs
    exact .bind (.alloc _) fun _ => by dsimp only; exact .pure _
theorem keepsD_noteFrame (e : Value) (env : Env) : KeepsD (noteFrame e env) := by
  unfold noteFrame
  split
  · refine .bind (keepsD_field _ _) fun head => ?_
    rename_i f _
    have last : KeepsD (do
      let a ← PySem.frameOf env
      let pl ← entryPlaceOf f (head != .none)
      let b ← EntryCells.newEntry head a .none (rawInt f) .none pl
      setField e 1 b) := .bind (keepsD_frameOf _) fun _ => .bind (keepsD_entryPlaceOf _ _) fun _ => .bind (by unfold EntryCells.newEntry; exact keepsD_newFields _ _) fun _ => keepsD_setField _ _ _
    split
    · refine .bind (keepsD_field _ _) fun x => ?_
      split
      · exact .pure _
      · exact .bind (keepsD_setField _ _ _) fun _ => last
    · exact last
  · exact .unsupported _
theorem keepsD_leaving (env : Env) (e : Value) : KeepsD (leaving env e) := by
  unfold leaving
  exact .bind (keepsD_noteFrame _ _) fun _ => keepsD_setFlight _ _
theorem keepsD_wp {α : Type} {t : Sem α} (hk : KeepsD t) {M : Model} {A : Around} {Q : α → Shared → Prop} {E : Value → Shared → Prop} {s : Shared} (h : wpAny M A t Q E s) :
    wpAny M A t (fun a s' => Q a s' ∧ DK s.heap s'.heap) (fun e s' => E e s' ∧ DK s.heap s'.heap) s := fun Γ p hΓ => hk M Γ _ _ p s (h Γ p hΓ)
end
/-- the exception as the heap bears it ahead of its first frame: its args' tuple at t, its dict -/
abbrev excObj (t : Addr) (od : Option Addr) : Obj := { cls := .ref 52, dict := od, data := .fields #[.ref t, .none, .none, .none, .bool false, .none] }
section
variable {prog : Program} {w : World} {A : Around} {E : Value → Shared → Prop} {h : Heap} {g : Array GenState} {d : Drawn} {t : Nat} {os : OsState}
variable {nm q : Str} {C N : Addr} {bs bm bmN : List Value} {hdct : Bool} {sn : List Str} {sub : List Value} {ab : Bool} {col : Option Bool} {dd : Option Addr} {k0 k1 k2 k3 k5 : Option Value} {Bn newId inN : String}
/-- BaseException.__new__ for a class whose own bases stand between it and the built-in one -/
theorem exc_new (Fn : ExcBaseFacts Bn newId inN bmN) (hB : (Value.ref C :: bm).contains (.type Bn) = true) (hA : (Value.ref C :: bm).contains (.type "AttributeError") = false) (hN : (Value.ref C :: bm).contains (.type "NameError") = false) {R : Result → Shared → Prop} {rest : List Value}
    (hC : h.get? C = some (excClassObj nm q C N bs bm hdct sn sub ab col dd k0 k1 k2 k3 k5 newId))
    (hq : R (.ok (.ret (.ref (h.objs.size + 1)))) ⟨(h.push { cls := .type "tuple", data := .seq rest.toArray }).push
      { cls := .ref C, data := .fields #[.ref h.objs.size, .none, .none, .none, .bool false, .none] }, g, d, t, os⟩) (hrest : rest.length ≤ sizeLine) :
    codeAny (model prog w) A (.builtin newId ⟨.ref C :: rest, []⟩) R ⟨h, g, d, t, os⟩ := by
  have hends := Fn.ends
  refine codeAny_builtinAt Fn.entry ?_
  unfold Builtin.«BaseException.__new__»
  refine PySem.wpAt_bind ?_
  show PySem.wpAt _ _ _ (stack >>= _) _ _ _
  refine PySem.wpAt_bind (PySem.wpAt_stack fun p below => PySem.wpAt_of_wpAny ?_)
  wp_walk
  refine PySem.wpAt_of_wpAny ?_
  rw [Fn.owner]
  repeat (first | with_reducible refine wpAny_madeHere_exc Fn.canon hC ?_ | with_reducible refine wpAny_loadPart_at hC ?_ | (with_reducible refine wpAny_isSubtype_exc hC ?_; first | rw [hB] | rw [hA] | rw [hN]) | wp_step)
  show R _ _
  rw [Heap.size_push]
  exact hq
theorem exc_check_new (Fn : ExcBaseFacts Bn newId inN bmN) (hB : (Value.ref C :: bm).contains (.type Bn) = true) {M : Model} {rest : List Value} {Q : Unit → Shared → Prop}
    (hC : h.get? C = some (excClassObj nm q C N bs bm hdct sn sub ab col dd k0 k1 k2 k3 k5 newId)) (hq : Q () ⟨h, g, d, t, os⟩) : wpAny M A (checkBuiltinCall newId ⟨.ref C :: rest, []⟩) Q E ⟨h, g, d, t, os⟩ := by
  refine wpAny_check_new_subU Fn ?_ .base hC hq
  rw [List.contains_cons] at hB
  exact (Bool.or_eq_true_iff.mp hB).resolve_left (fun h => by cases h)
/-- type.__call__ on such a class, its __init__ a def found along its bases -/
theorem exc_type_call (Fn : ExcBaseFacts Bn newId inN bmN) (hB : (Value.ref C :: bm).contains (.type Bn) = true) (hA : (Value.ref C :: bm).contains (.type "AttributeError") = false) (hN : (Value.ref C :: bm).contains (.type "NameError") = false) {K : Frag} {rest : List Value} {fI : Addr} {Q : Fin → Shared → Prop}
    (hC : h.get? C = some (excClassObj nm q C N bs bm hdct sn sub ab col dd k0 k1 k2 k3 k5 newId)) (X : K.In h) (hi : findIn K (.ref C) "__init__" = some (some (.ref fI))) (hf : typeIn K (.ref fI) = some (.type "function"))
    (hq : ∀ h', (∀ b o, h.get? b = some o → h'.get? b = some o) → h'.get? h.objs.size = some { cls := .type "tuple", data := .seq rest.toArray } →
      h'.get? (h.objs.size + 1) = some { cls := .ref C, data := .fields #[.ref h.objs.size, .none, .none, .none, .bool false, .none] } →
      wpAny (model prog w) A (call (.ref fI) (.ref (h.objs.size + 1) :: rest)) (fun r s' => r = .none ∧ Q (.done (.ret (.ref (h.objs.size + 1)))) s') E ⟨h', g, d, t, os⟩) (hrest : rest.length ≤ sizeLine) :
    wpAny (model prog w) A (Builtin.«type.__call__» ⟨.ref C :: rest, []⟩) Q E ⟨h, g, d, t, os⟩ := by
  repeat (first | with_reducible refine wpAny_loadPart_at hC ?_ | with_reducible refine wpAny_madeBy_exc hC ?_ | wp_step)
  refine codeAny_call_builtin_code (Code.quiet_builtin _ Fn.quiet) (exc_check_new Fn hB hC ?_)
  refine exc_new Fn hB hA hN hC ?_ hrest
  show wpAny _ _ _ _ _ _
  have hC₁ := Heap.get?_push_of_some { cls := .ref C, data := .fields #[.ref h.objs.size, .none, .none, .none, .bool false, .none] }
    (Heap.get?_push_of_some { cls := .type "tuple", data := .seq rest.toArray } hC)
  have X₁ : K.In ((h.push { cls := .type "tuple", data := .seq rest.toArray }).push { cls := .ref C, data := .fields #[.ref h.objs.size, .none, .none, .none, .bool false, .none] }) :=
    X.keeps fun b o e => Heap.get?_push_of_some _ (Heap.get?_push_of_some _ e)
  have hget : ((h.push { cls := .type "tuple", data := .seq rest.toArray }).push
      { cls := .ref C, data := .fields #[.ref h.objs.size, .none, .none, .none, .bool false, .none] }).get? (h.objs.size + 1) = some
      { cls := .ref C, data := .fields #[.ref h.objs.size, .none, .none, .none, .bool false, .none] } := by heap_get
  have hcC : (Value.ref C :: bm).contains (.ref C) = true := by simp
  unfold isInstance
  repeat (first | with_reducible refine wpAny_loadPart_at hget ?_ | (with_reducible refine wpAny_isSubtype_exc hC₁ ?_; rw [hcC]) | wp_step)
  show wpAny _ _ (typeLookup (.ref C) _) _ _ _
  refine (looks_findIn X₁ hi).here ?_
  refine wpAny_holding (wpAny_bind ((bind_fn X₁ _ hf).here ?_))
  refine wpAny_bind (wpAny_mono (hq _ (fun b o hb => Heap.get?_push_of_some _ (Heap.get?_push_of_some _ hb)) (Heap.get?_push_of_some _ (Heap.get?_push_at rfl rfl)) hget) (fun r s' hr => ?_) fun _ _ x => x)
  obtain ⟨rfl, hQ⟩ := hr
  wp_walk
  exact hQ
end
section
variable {prog : Program} {w : World} {A : Around} {E : Value → Shared → Prop} {s : Shared} {h₀ : Heap} {L : Addr} {m : Str → Option Value} {news : List (Addr × Obj)}
/-- A call of DesignError: a tuple of what it is given, the exception, then its __init__ -/
theorem exc_call {args : List Value} {Q : Value → Shared → Prop} (F : Fr h₀ L s.heap m) (X₀ : (hd.heap_39 w.params).In h₀) (N : News h₀ L s.heap news) (hi : findIn (hd.heap_39 w.params) (.ref 52) "__init__" = some (some (.ref 36))) (hf : typeIn (hd.heap_39 w.params) (.ref 36) = some (.type "function"))
    (ho : (hd.heap_39 w.params).lookup 52 = some (excClassObj (Str.ofString "DesignError") (Str.ofString "DesignError") 52 51 [.ref 39] [.ref 39, .type "Exception", .type "BaseException", .type "object"] true [] [] false none none (some (.ref 43)) none (some (.str (Str.ofString "DesignError") 232)) (some (.str (Str.ofString "DesignError") 240)) (some (.bool true)) "Exception.__new__"))
    (h : ∀ e t h', Fr h₀ L h' m → News h₀ L h' ((e, excObj t none) :: (t, tup args) :: news) → (∀ p ∈ news, p.1 < t) → t < e →
      wpAny (model prog w) (A.under (.builtin "type.__call__" ⟨.ref 52 :: args, []⟩)) (call (.ref 36) (.ref e :: args)) (fun r s' => r = .none ∧ Q (.ref e) s') E { s with heap := h' }) (hlen : args.length ≤ 1000) :
    wpAny (model prog w) A (call (.ref 52) args) Q E s := by
  have hrest : args.length ≤ sizeLine := by rw [sizeLine_eq]; omega
  obtain ⟨hp, g, d, tk, os⟩ := s
  have hC := (X₀.keeps F.keep) _ _ ho
  have f1 := tc_lookup
  have f2 := tc_bind (.ref 52)
  have hT : (⟨hp, g, d, tk, os⟩ : Shared).TypeIs (.ref 52) "type" := ⟨_, hC, rfl⟩
  refine wpAny_call (codeAny_of_tree ?_)
  show wpAny _ _ (callAny (.ref 52) _) _ _ _
  repeat (any_goals (first | assumption | with_reducible refine wpAny_loadPart_at hC ?_ | wp_step))
  refine ⟨rfl, ?_⟩
  refine codeAny_call_builtin_at (Code.quiet_builtin _ (by decide +kernel)) entry_typeCall (wpAny_check_type_call_sub hC (exc_type_call PySem.F.excBase_Exception (by decide +kernel) (by decide +kernel) (by decide +kernel) hC (X₀.keeps F.keep) hi hf (fun h' hk ht he => ?_) hrest))
  have F' := F.keeps hk
  have sz : ∀ q ∈ news, q.1 < hp.objs.size := fun q hq => Heap.lt_size (N q hq).1
  have hL : L < hp.objs.size := F.ns.lt
  have old : ∀ b, hp.objs.size ≤ b → h₀.get? b = none := fun b hb => by
    cases q : h₀.get? b with
    | none => rfl
    | some o => exact absurd (Heap.lt_size (F.keep _ _ q)) (Nat.not_lt.mpr hb)
  refine h (hp.objs.size + 1) hp.objs.size h' F' (fun q hq => ?_) sz (Nat.lt_succ_self _)
  rcases List.mem_cons.mp hq with rfl | hq
  · exact ⟨he, Nat.ne_of_gt (Nat.lt_succ_of_lt hL), old _ (Nat.le_succ _)⟩
  rcases List.mem_cons.mp hq with rfl | hq
  · exact ⟨ht, Nat.ne_of_gt hL, old _ (Nat.le_refl _)⟩
  · exact ⟨hk _ _ (N q hq).1, (N q hq).2⟩
/-- the raise of an exception that its maker has filled -/
theorem raise_own {env : Env} {x : Sem Value} {Q : Flow → Shared → Prop} {K : Frag} (hh : A.handled = none)
    (h : wpAny (model prog w) A x (fun v s₁ => ∃ e t od oC, v = .ref e ∧ K.In s₁.heap ∧ subIn K (.ref 52) (.type "BaseException") = some true ∧ K.lookup 52 = some oC ∧ oC.cls = .type "type" ∧ s₁.heap.get? e = some (excObj t od) ∧ E (.ref e) s₁) E s) :
    wpAny (model prog w) A (raiseStmt env (some x) none) Q E s := by
  unfold raiseStmt
  refine wpAny_bind (wpAny_mono h (fun v s₁ h₁ => ?_) fun _ _ x => x)
  obtain ⟨e, t, od, oC, rfl, X, hs, ho, hc, he, hE⟩ := h₁
  have hC := X _ _ ho
  obtain ⟨hp, g, d, tk, os⟩ := s₁
  repeat (first | with_reducible refine wpAny_loadPart_at he ?_ | (with_reducible refine wpAny_loadPart_at hC ?_; rw [hc]) | with_reducible refine (looks_subIn X hs).here ?_ | wp_step)
  exact wpAny_raiseNew_none hh hE
end
section
variable {prog : Program} {w : World} {A : Around} {E : Value → Shared → Prop} {s : Shared} {h₀ : Heap} {L : Addr} {m : Str → Option Value} {news : List (Addr × Obj)} {K : Frag} {e t d : Addr} {name : Str} {v : Value}
def RaisableX (K : Frag) (E : Value → Shared → Prop) (v : Value) (s₁ : Shared) : Prop :=
  ∃ e t od oC, v = .ref e ∧ K.In s₁.heap ∧ subIn K (.ref 52) (.type "BaseException") = some true ∧ K.lookup 52 = some oC ∧ oC.cls = .type "type" ∧ s₁.heap.get? e = some (excObj t od) ∧ E (.ref e) s₁
theorem Raise_own {env : Env} {x : PySem.Expr} {pos : Pos} {Q : Flow → Shared → Prop} (hh : A.handled = none) (h : wpAny (model prog w) A (eval x env) (RaisableX K E) E s) :
    wpAny (model prog w) A (exec (.Raise (some x) none pos) env) Q E s := by
  show wpAny _ A (do standAt pos; raiseStmt env (some (do let v ← eval x env; standAt pos; pure v)) none) Q E s
  exact wpAny_bind (wpAny_standAt (raise_own (K := K) hh (wpAny_bind (wpAny_mono h (fun v s₁ h₁ => wpAny_bind (wpAny_standAt (wpAny_pure h₁))) fun _ _ x => x))))
/-- what a namespace's object says of its names -/
def NsO (o : Obj) (mA : Str → Option Value) : Prop := ∃ es ep, o.data = .dict es ep ∧ StrKeys es ∧ UniqKeys es ∧ ∀ y, nsFind es y = mA y
theorem NsO.at {h : Heap} {o : Obj} {mA : Str → Option Value} (x : NsO o mA) (ho : h.get? d = some o) : h.Ns1 d mA := let ⟨es, ep, a, b, c, f⟩ := x; ⟨o, es, ep, ho, a, b, c, f⟩
theorem NsO.of {h : Heap} {mA : Str → Option Value} (x : h.Ns1 d mA) : ∃ o, h.get? d = some o ∧ NsO o mA := let ⟨o, es, ep, ho, a, b, c, f⟩ := x; ⟨o, ho, es, ep, a, b, c, f⟩
abbrev dErr : ClassData := { name := Str.ofString "DesignError", bases := [.ref 39], mro := [.ref 52, .ref 39, .type "Exception", .type "BaseException", .type "object"], ns := 51, qualname := Str.ofString "DesignError" }
open Builtin Builtin.ObjectAttr in
/-- object.__setattr__ upon the exception, up to the store -/
theorem osaX {od : Option Obj} {ox : Obj} {tk : Tok} {R : Result → Shared → Prop} (X : K.In s.heap) (I : InstAt s.heap e ox 52 od) (hb : mroIn K 52 (.type "object") = some true) (hc : clsIn K 52 = some dErr) (ha : findIn K (.ref 52) name = some none)
    (h : wpAny (model prog w) A.in1 (storeInOwnDict (.ref e) (.ref 52) (.str name tk) name v false)
      (fun fin s' => match fin with | .done f => R (.ok f) s' | .again c' => c'.quiet = true ∧ codeAny (model prog w) A c' R s') (fun e s' => R (.error e) s') s) :
    codeAny (model prog w) A (.call (.builtin "object.__setattr__") ⟨[.ref e, .str name tk, v], []⟩) R s := by
  have SF := PySem.F.store_object
  have sub : Looks (model prog w) s.heap (isInstance (.ref e) (.type "object")) true := I.type.andThen (looks_mroIn X hb)
  refine codeAny_call_builtin SF.slot.plain SF.entry (@check_slot (model prog w) _ _ s "object.__setattr__" "object" "__setattr__" (.ref e) [.str name tk, v] [] _ SF.kind SF.split sub (SF.args (.ref e) (.str name tk) v) ?_)
  have hm : Looks (model prog w) s.heap (mroOf (.ref 52)) dErr.mro := (looks_clsIn X hc).andThen .now
  rw [osa_eq, refuse_eq]
  refine wpAny_bind (wpAny_bind (I.type.here (wpAny_bind (hm.here ?_))))
  rw [refuseLoop_ref, refuseLoop_ref, PySem.F.store_Exception.passes]
  exact wpAny_pure (wpAny_bind (I.type.here (wpAny_bind ((looks_findIn X ha).here (wpAny_bind (wpAny_pure h))))))
open Builtin Builtin.ObjectAttr in
/-- the store into a dict that the exception has -/
theorem storeOld {od : Obj} {tk : Tok} {mA : Str → Option Value} {ns : List Str} {Q : PySem.Fin → Shared → Prop} (hD : NsO od mA) (ho : s.heap.get? d = some od) (hw : Within mA ns) (hn : ns.length ≤ 10)
    (h : ∀ h' od', h'.get? d = some od' → NsO od' (fun y => if y = name then some v else mA y) → Heap.SameBut d s.heap h' → Q (.done (.ret .none)) { s with heap := h', toks := s.toks + 1 }) :
    wpAny (model prog w) A (storeInDict d (.str name tk) name v) Q E s := by
  unfold storeInDict newKeyGuard
  refine wpAny_bind (wpAny_pure (wpAny_bind (wpAny_nsSet1 (hD.at ho) fun h' hn' hs => ?_)))
  obtain ⟨oD, esD, epD, hoD, hdD, hcD⟩ := hn'.count (Within.cons name v hw)
  refine wpAny_bind (wpAny_lookBehind hoD (by rw [hdD]; exact pastItsLine_dict (Nat.le_trans hcD (by rw [List.length_cons, sizeLine_eq]; omega))) ?_)
  obtain ⟨od', ho', hN'⟩ := NsO.of hn'
  exact wpAny_pure (h h' od' ho' hN' hs)
open Builtin Builtin.ObjectAttr in
theorem setX_old {oD : Obj} {mA : Str → Option Value} {ns : List Str} {Q : Unit → Shared → Prop} (F : Fr h₀ L s.heap m) (X₀ : K.In h₀) (N : News h₀ L s.heap ((e, excObj t (some d)) :: (d, oD) :: news)) (hed : e ≠ d) (hnd : ∀ p ∈ news, p.1 ≠ d)
    (hs : findIn K (.ref 52) "__setattr__" = some (some (.builtin "object.__setattr__"))) (hb : mroIn K 52 (.type "object") = some true) (hc : clsIn K 52 = some dErr) (ha : findIn K (.ref 52) name = some none)
    (hD : NsO oD mA) (hw : Within mA ns) (hn : ns.length ≤ 10)
    (h : ∀ h' oD' tk, Fr h₀ L h' m → News h₀ L h' ((e, excObj t (some d)) :: (d, oD') :: news) → NsO oD' (fun y => if y = name then some v else mA y) → Q () { s with heap := h', toks := tk }) : wpAny (model prog w) A (setAttr (.ref e) name v) Q E s := by
  have X := X₀.keeps F.keep
  have he := N _ (.head _)
  have hd := N _ (.tail _ (.head _))
  have I : InstAt s.heap e (excObj t (some d)) 52 (some oD) := ⟨he.1, rfl, rfl, hd.1⟩
  refine set_plain X I hs (osaX (s := { s with toks := s.toks + 1 }) X I hb hc ha ?_)
  refine wpAny_bind (wpAny_pure (wpAny_bind (wpAny_bind (wpAny_loadPart he.1 (wpAny_bind (looks_clsIn X hc _ _ _ _ (fun _ _ e => e) ?_))))))
  refine wpAny_pure (a := some d) (wpAny_bind (wpAny_pure ?_))
  refine storeOld (tk := s.toks) (s := { s with toks := s.toks + 1 }) hD hd.1 hw hn fun h' od' ho' hN' hs' => ?_
  refine h h' od' _ (F.change hs' hd.2.1 hd.2.2) (fun p hp => ?_) hN'
  rcases List.mem_cons.mp hp with rfl | hp
  · exact ⟨(hs'.2 _ hed).trans he.1, he.2⟩
  rcases List.mem_cons.mp hp with rfl | hp
  · exact ⟨ho', hd.2⟩
  · have z := N p (.tail _ (.tail _ hp))
    exact ⟨(hs'.2 _ (hnd p hp)).trans z.1, z.2⟩
open Builtin Builtin.ObjectAttr in
theorem setX_new {Q : Unit → Shared → Prop} (F : Fr h₀ L s.heap m) (X₀ : K.In h₀) (N : News h₀ L s.heap ((e, excObj t none) :: news)) (hne : ∀ p ∈ news, p.1 ≠ e)
    (hs : findIn K (.ref 52) "__setattr__" = some (some (.builtin "object.__setattr__"))) (hb : mroIn K 52 (.type "object") = some true) (hc : clsIn K 52 = some dErr) (ha : findIn K (.ref 52) name = some none)
    (h : ∀ d h' oD tk, Fr h₀ L h' m → News h₀ L h' ((e, excObj t (some d)) :: (d, oD) :: news) → NsO oD (fun y => if y = name then some v else none) → (∀ p ∈ (e, excObj t none) :: news, p.1 < d) → Q () { s with heap := h', toks := tk }) : wpAny (model prog w) A (setAttr (.ref e) name v) Q E s := by
  have X := X₀.keeps F.keep
  have he := N _ (.head _)
  have I : InstAt s.heap e (excObj t none) 52 none := ⟨he.1, rfl, rfl, trivial⟩
  refine set_plain X I hs (osaX (s := { s with toks := s.toks + 1 }) X I hb hc ha ?_)
  refine wpAny_bind (wpAny_pure (wpAny_bind (wpAny_bind (wpAny_loadPart he.1 (wpAny_bind (looks_clsIn X hc _ _ _ _ (fun _ _ e => e) ?_))))))
  have he1 : e < s.heap.objs.size := Heap.lt_size he.1
  have he' : (s.heap.push { cls := .type "dict", data := .dict #[] }).get? e = some (excObj t none) := Heap.get?_push_of_some _ he.1
  refine wpAny_bind (wpAny_alloc ?_)
  refine wpAny_bind (wpAny_update he' ?_)
  refine wpAny_pure (a := some s.heap.objs.size) (wpAny_bind (wpAny_pure ?_))
  have hne' : e ≠ s.heap.objs.size := Nat.ne_of_lt he1
  have hgd : ((s.heap.push { cls := .type "dict", data := .dict #[] }).update e fun o => { o with dict := some s.heap.objs.size }).get? s.heap.objs.size = some { cls := .type "dict", data := .dict #[] } :=
    (Heap.get?_update_other _ _ hne').trans (Heap.get?_push_at rfl rfl)
  have hns : ((s.heap.push { cls := .type "dict", data := .dict #[] }).update e fun o => { o with dict := some s.heap.objs.size }).Ns s.heap.objs.size (fun _ => none) :=
    ⟨_, #[], _, hgd, rfl, fun e he => absurd he (by simp), fun _ => rfl⟩
  obtain ⟨o', ho', hO⟩ := NsO.of (Heap.Ns1.of_empty hns)
  refine storeOld (tk := s.toks) (s := { s with heap := (s.heap.push { cls := .type "dict", data := .dict #[] }).update e fun o => { o with dict := some s.heap.objs.size }, toks := s.toks + 1 }) hO ho' Within.nil (by simp) fun h' od' hd' hN' hs' => ?_
  have hL : L < s.heap.objs.size := F.ns.lt
  have old : ∀ b o, b ≠ e → s.heap.get? b = some o → h'.get? b = some o := fun b o hb q =>
    (hs'.2 b (Nat.ne_of_lt (Heap.lt_size q))).trans ((Heap.get?_update_other _ _ (Ne.symm hb)).trans (Heap.get?_push_of_some _ q))
  have heL : e ≠ L := he.2.1
  have F' : Fr h₀ L h' m := ⟨F.ns.at' fun o q => old L o (Ne.symm heL) q, fun b o q => old b o (fun z => by rw [z, he.2.2] at q; cases q) (F.keep b o q), F.above⟩
  refine h s.heap.objs.size h' od' _ F' (fun p hp => ?_) hN' (fun p hp => Heap.lt_size (N p hp).1)
  rcases List.mem_cons.mp hp with rfl | hp
  · exact ⟨(hs'.2 _ hne').trans (Heap.get?_update_self _ he' rfl), he.2⟩
  rcases List.mem_cons.mp hp with rfl | hp
  · refine ⟨hd', Nat.ne_of_gt hL, ?_⟩
    cases q : h₀.get? s.heap.objs.size with
    | none => rfl
    | some o => exact absurd (Heap.lt_size (F.keep _ _ q)) (Nat.lt_irrefl _)
  · have z := N p (.tail _ hp)
    exact ⟨old _ _ (hne p hp) z.1, z.2⟩
end
/-- the exception is on its way out: the ledger stands, its dict stays its dict -/
def RaisedX (base : Heap) (l : List Env) (e dx : Addr) (news : List (Addr × Obj)) (h : Heap) : Prop :=
  (∃ B a0, base.StaysIn B ∧ (∀ q ∈ news, B.get? q.1 = some q.2 ∧ base.get? q.1 = none) ∧ Heap.FlyingW B l e (.ref 52) a0 h) ∧ ∃ oe, h.get? e = some oe ∧ oe.dict = some dx
section
variable {M : Model} {A : Around} {E : Value → Shared → Prop} {s' : Shared} {base g g₂ h : Heap} {outer : List Env} {L a e t dx : Addr} {m : Str → Option Value} {name : Str} {scope : Scope} {cd : Value} {Q : Unit → Shared → Prop} {news : List (Addr × Obj)}
theorem leaveX_first (K : Below A base outer g) (F : Fr g L s'.heap m) (N : News g L s'.heap ((e, excObj t (some dx)) :: news)) (hne : ∀ q ∈ news, q.1 ≠ e)
    (hQ : ∀ h', RaisedX base outer e dx news h' → g.UpToSlots h' → Q () { s' with heap := h' }) (hk : scope.kind = .function := by rfl) :
    wpAny M (A.deeper (envOf name scope L a cd)) (leaving (envOf name scope L a cd) (.ref e)) Q E s' := by
  have K' := K.push (name := name) (a := a) (cd := cd) F hk
  have he := N _ (.head _)
  have heb : base.get? e = none := fresh_of_stays K.stays he.2.2
  let as := e :: (envOf name scope L a cd :: outer).filterMap (·.frame)
  have hin : ∀ env ∈ (envOf name scope L a cd :: outer), ∀ b, env.frame = some b → b ∈ as := fun env he b hb => List.mem_cons_of_mem _ (List.mem_filterMap.mpr ⟨env, he, hb⟩)
  have st : base.StaysIn (hideAll s'.heap as) := fun b o q => hideAll_get _ (K'.stays b o q) fun hm => by
    rcases List.mem_cons.mp hm with rfl | hm
    · rw [heb] at q; cases q
    · rw [(K'.frames.mem hm).1] at q; cases q
  have hl : ∀ q ∈ news, (hideAll s'.heap as).get? q.1 = some q.2 ∧ base.get? q.1 = none := fun q hq => by
    have z := N q (.tail _ hq)
    refine ⟨hideAll_get _ z.1 fun hm => ?_, fresh_of_stays K.stays z.2.2⟩
    rcases List.mem_cons.mp hm with hm | hm
    · exact hne q hq hm
    obtain ⟨env, he, hf⟩ := List.mem_filterMap.mp hm
    rcases List.mem_cons.mp he with rfl | he
    · exact z.2.1 (Option.some.inj hf).symm
    · obtain ⟨o, ho, _⟩ := (K.frames.mem (List.mem_filterMap.mpr ⟨env, he, hf⟩)).2
      rw [z.2.2] at ho; cases ho
  have hen : (hideAll s'.heap as).get? e = none := hideAll_none _ (.head _)
  have W := wpAny_leaving_firstW (Q := fun _ s'' => ∃ h', s'' = { s' with heap := h' } ∧ Heap.LeftW (hideAll s'.heap as) (envOf name scope L a cd :: outer) e (.ref 52) (.ref t) s'.heap h') (E := E) (M := M) (a0 := .ref t) K'.stack
    (funFrames_hide K'.frames hin) rfl he.1 (fun b o q => of_hideAll _ q) hen rfl rfl rfl (fun h' hL => ⟨h', rfl, hL⟩)
  refine wpAny_mono (keepsD_wp (keepsD_leaving _ _) W) (fun _ s'' z => ?_) (fun _ _ x => x.1)
  obtain ⟨⟨h', rfl, k1, ⟨_, _, k2⟩, k3, k4⟩, hD⟩ := z
  exact hQ h' ⟨⟨_, _, st, hl, k1, hen, k2, k3⟩, hD e _ he.1⟩ ((Heap.UpToSlots.of_keeps F.keep).trans k4)
theorem leaveX_on (K : Below A base outer g) (F : Fr g L g₂ m) (R : RaisedX base (envOf name scope L a cd :: outer) e dx news s'.heap) (hsm : g₂.UpToSlots s'.heap)
    (hQ : ∀ h', RaisedX base outer e dx news h' → g.UpToSlots h' → Q () { s' with heap := h' }) :
    wpAny M (A.deeper (envOf name scope L a cd)) (leaving (envOf name scope L a cd) (.ref e)) Q E s' := by
  obtain ⟨⟨B, a0, hB, hl, hfl⟩, oe, hoe, hdx⟩ := R
  have W := wpAny_leaves_onW (Q := fun _ s'' => ∃ h', s'' = { s' with heap := h' } ∧ Heap.FlyingW B outer e (.ref 52) a0 h' ∧ s'.heap.UpToSlots h') (E := E) (M := M) (Around.frames_deeper K.stack) rfl hfl (fun h' x1 x2 => ⟨h', rfl, x1, x2⟩)
  refine wpAny_mono (keepsD_wp (keepsD_leaving _ _) W) (fun _ s'' z => ?_) (fun _ _ x => x.1)
  obtain ⟨⟨h', rfl, x1, x2⟩, hD⟩ := z
  obtain ⟨o', ho', hd'⟩ := hD e _ hoe
  exact hQ h' ⟨⟨B, a0, hB, hl, x1⟩, o', ho', hd'.trans hdx⟩ ((Heap.UpToSlots.of_keeps F.keep).trans (hsm.trans x2))
end
section
variable {prog : Program} {w : World} {A₀ : Around} {E : Value → Shared → Prop} {s' : Shared} {h₀ h : Heap} {outer : List Env} {L a e dx : Addr} {m : Str → Option Value} {name : Str} {scope : Scope} {cd : Value}
  {n : Str} {b₀ : Stmt} {suite : List Stmt} {pos np : Pos} {rest : List ExceptHandler} {Q : Flow → Shared → Prop} {news : List (Addr × Obj)} {KF : Frag}
  {p : Program} {loose : List Str} {mg mb : Str → Option Value} {x : Str}
theorem caughtX (K : Below A₀ h₀ outer h₀) (F : Fr h₀ L h m) (hsm : h.UpToSlots s'.heap) (R : RaisedX h₀ (envOfC name scope L a cd :: outer) e dx news s'.heap)
    (X : KF.In h₀) (T : TopRead p loose mg mb h₀) (ex : nsIn KF mainGlobals x = some (some (.ref 52)))
    (ho : KF.lookup 52 = some (excClassObj (Str.ofString "DesignError") (Str.ofString "DesignError") 52 51 [.ref 39] [.ref 39, .type "Exception", .type "BaseException", .type "object"] true [] [] false none none (some (.ref 43)) none (some (.str (Str.ofString "DesignError") 232)) (some (.str (Str.ofString "DesignError") 240)) (some (.bool true)) "Exception.__new__"))
    (k : ∀ h' oe vs tk, Fr h₀ L h' (fun y => if y = n then some (.ref e) else m y) → News h₀ L h' ((e, oe) :: news) → oe.cls = .ref 52 → oe.data = .fields vs → oe.dict = some dx →
      wpAny (model prog w) ((A₀.deeper (envOfC name scope L a cd)).mark (some (.ref e))) (execs (b₀ :: suite) (envOfC name scope L a cd))
        (fun f s₄ => wpAny (model prog w) (A₀.deeper (envOfC name scope L a cd)) (do bindName (envOfC name scope L a cd) n .none; unbindBehindTheSuite (envOfC name scope L a cd) n pos) (fun _ s₅ => Q f s₅) E s₄)
        (fun _ _ => False)
        { s' with heap := h', toks := tk })
    (hk : scope.kind = .function := by rfl) (hlo : (envOfC name scope L a cd).kindOf n = some .local := by rfl) (hx : (envOfC name scope L a cd).kindOf x = some .globalImplicit := by rfl) (hd : (x == ("__debug__" : Str)) = false := by decide) :
    wpAny (model prog w) (A₀.deeper (envOfC name scope L a cd)) (noteFrame (.ref e) (envOfC name scope L a cd))
      (fun _ s₂ => wpAny (model prog w) (A₀.deeper (envOfC name scope L a cd)) (setFlight (.ref e) none) (fun _ s₃ =>
        wpAny (model prog w) (A₀.deeper (envOfC name scope L a cd)) (handleBy (.ref e) (envOfC name scope L a cd) (.ExceptHandler (some (.Name x np)) (some n) (b₀ :: suite) pos :: rest)) Q E s₃) E s₂) E s' := by
  obtain ⟨⟨B, a0, hB, hl, hfl⟩, oe, hoe, hdx⟩ := R
  have hL : B.get? L = none := by
    obtain ⟨_, ⟨L', _, hf, hn', _⟩, _⟩ := hfl.2.2.1
    obtain rfl : L = L' := Option.some.inj hf
    exact hn'
  have W := wpAny_looks_onW (Q := fun _ s'' => ∃ h', s'' = { s' with heap := h' } ∧ Heap.HeldW B (envOfC name scope L a cd :: outer) e (.ref 52) a0 L h' ∧ s'.heap.UpToSlots h') (E := E) (M := model prog w) (Around.frames_deeper K.stack) rfl hfl (fun h' x1 x2 => ⟨h', rfl, x1, x2⟩)
  refine wpAny_mono (keepsD_wp (keepsD_noteFrame _ _) W) (fun _ s'' z => ?_) (fun _ _ x => x.1)
  obtain ⟨⟨h₄, rfl, hheld₄, hsm₄⟩, hD⟩ := z
  obtain ⟨o4, ho4, hd4⟩ := hD e _ hoe
  have W := wpAny_landsW (Q := fun _ s'' => ∃ h', s'' = { s' with heap := h' } ∧ Heap.FlyingW B (envOfC name scope L a cd :: outer) e (.ref 52) a0 h' ∧ h₄.UpToSlots h') (E := E) (M := model prog w) (s := { s' with heap := h₄ }) (A := A₀.deeper (envOfC name scope L a cd)) hheld₄ (fun h' x1 x2 => ⟨h', rfl, x1, x2⟩)
  refine wpAny_mono (keepsD_wp (keepsD_setFlight _ _) W) (fun _ s'' z => ?_) (fun _ _ x => x.1)
  obtain ⟨⟨h₅, rfl, hheld, hsm₅'⟩, hD⟩ := z
  obtain ⟨o5, ho5, hd5⟩ := hD e _ ho4
  have hsm₅ := hsm₄.trans hsm₅'
  have hheld' := flyingW_base hB hheld
  have F₅ := F.of_stays hheld'.1 (hsm.trans hsm₅)
  obtain ⟨ob, hob, hobc⟩ := hheld'.there
  refine wpAny_handleBy_cons (codeAny_handlers_test (nameX_K F₅ X T ex ?_ hk hx hd)) (by intro q; cases q)
  have hC := (X.keeps F₅.keep) _ _ ho
  refine wpAny_excMatches_sub_self hC hob hobc (by decide +kernel) (codeAny_handlers_suite_as ?_)
  have W := lands_againW (Q := fun _ s'' => ∃ h', s'' = { s' with heap := h' } ∧ Heap.FlyingW B (envOfC name scope L a cd :: outer) e (.ref 52) a0 h' ∧ h₅.UpToSlots h') (E := fun _ _ => False) (M := model prog w) (s := { s' with heap := h₅ }) (A := (A₀.deeper (envOfC name scope L a cd)).mark (some (.ref e))) hheld (fun h' x1 x2 => ⟨h', rfl, x1, x2⟩)
  refine wpAny_mono (keepsD_wp (keepsD_setFlight _ _) W) (fun _ s'' z => ?_) (fun _ _ x => x.1.elim)
  obtain ⟨⟨h₆, rfl, hfl₆, hsm₆⟩, hD⟩ := z
  obtain ⟨o6, ho6, hd6⟩ := hD e _ ho5
  have hfl₆' := flyingW_base hB hfl₆
  have F₆ := F.of_stays hfl₆'.1 ((hsm.trans hsm₅).trans hsm₆)
  obtain ⟨oe', ws, hoe', hoec, hoed, hoe0⟩ := hfl₆'.first
  have e6 : o6 = oe' := Option.some.inj (ho6.symm.trans hoe')
  subst e6
  have N₆ := News.more F₆ News.nil hoe' (fun es n q => by rw [hoed] at q; cases q) hfl₆'.2.1
  have Nl : News h₀ L h₆ news := fun q hq => ⟨hfl₆.1 _ _ (hl q hq).1, (fun z => by have := (hl q hq).1; rw [z, hL] at this; cases this), (hl q hq).2⟩
  refine storeX_L F₆ (news := (e, o6) :: news) (fun q hq => (List.mem_cons.mp hq).elim (fun z => z ▸ N₆ _ (.head _)) (Nl q)) (fun h₇ F₇ N₇ => ?_) hk hlo
  exact wpAny_mono (k h₇ o6 ws _ F₇ N₇ hoec hoed ((hd6.trans (hd5.trans hd4)).trans hdx)) (fun _ _ x => x) (fun _ _ x => x.elim)
end
section
variable {prog : Program} {w : World} {A : Around} {E : Value → Shared → Prop} {h : Heap} {g : Array GenState} {dr : Drawn} {tt : Nat} {os : OsState} {K : Frag} {e d : Addr} {oe od : Obj} {vs : Array Value} {mA : Str → Option Value} {name : Str} {v : Value}
theorem entryX {tk : Tok} {Q : PySem.Fin → Shared → Prop} (X : K.In h) (hc : clsIn K 52 = some dErr) (ha : findIn K (.ref 52) name = some none) (hx : h.get? e = some oe) (hcls : oe.cls = .ref 52) (hdt : oe.data = .fields vs) (hdx : oe.dict = some d) (ho : h.get? d = some od) (hN : NsO od mA) (hv : mA name = some v)
    (hq : Q (.done (.ret v)) ⟨h, g, dr, tt, os⟩) : wpAny (model prog w) A (Builtin.«object.__getattribute__» ⟨[.ref e, .str name tk], []⟩) Q E ⟨h, g, dr, tt, os⟩ := by
  have hn := (hN.at ho).ns
  obtain ⟨oc, odi, oda, osl⟩ := oe
  dsimp only at hcls hdt hdx
  subst hcls hdt hdx
  repeat (first | exact hq | with_reducible refine wpAny_loadPart_at hx ?_ | with_reducible refine (looks_findIn X ha).here ?_ | with_reducible refine (looks_clsIn X hc).here ?_ | (with_reducible refine wpAny_nsGet (s := ⟨h, g, dr, tt, os⟩) hn ?_; rw [hv]) | wp_step)
theorem callX {tk : Tok} {R : Result → Shared → Prop} (X : K.In h) (hc : clsIn K 52 = some dErr) (ha : findIn K (.ref 52) name = some none) (hb : mroIn K 52 (.type "BaseException") = some true) (hx : h.get? e = some oe) (hcls : oe.cls = .ref 52) (hdt : oe.data = .fields vs) (hdx : oe.dict = some d) (ho : h.get? d = some od) (hN : NsO od mA) (hv : mA name = some v)
    (hq : R (.ok (.ret v)) ⟨h, g, dr, tt, os⟩) : codeAny (model prog w) A (.call (.builtin "BaseException.__getattribute__") ⟨[.ref e, .str name tk], []⟩) R ⟨h, g, dr, tt, os⟩ := by
  have ht : Looks (model prog w) h (typeOf (.ref e)) (.ref 52) := by
    have z := Looks.ld (M := model prog w) (part := some headPart) hx
    rw [← hcls]
    exact z.andThen .now
  have sub : Looks (model prog w) h (isInstance (.ref e) (.type "BaseException")) true := ht.andThen (looks_mroIn X hb)
  refine codeAny_call_builtin (by decide +kernel) PySem.F.entry_bexc_ga (@check_slot (model prog w) _ _ ⟨h, g, dr, tt, os⟩ "BaseException.__getattribute__" "BaseException" "__getattribute__" (.ref e) [.str name tk] [] _ (by decide +kernel) (by decide +kernel) sub (PySem.F.args_bexc_ga _ _) ?_)
  exact entryX X hc ha hx hcls hdt hdx ho hN hv hq
theorem byX {tk : Tok} {fill expr : Bool} {Q : Value → Shared → Prop} (X : K.In h) (hc : clsIn K 52 = some dErr) (ha : findIn K (.ref 52) name = some none) (hb : mroIn K 52 (.type "BaseException") = some true) (hg : findIn K (.ref 52) "__getattribute__" = some (some (.builtin "BaseException.__getattribute__"))) (hh : findIn K (.ref 52) "__getattr__" = some none) (hx : h.get? e = some oe) (hcls : oe.cls = .ref 52) (hdt : oe.data = .fields vs) (hdx : oe.dict = some d) (ho : h.get? d = some od) (hN : NsO od mA) (hv : mA name = some v)
    (hho : handedOut v = pure v) (hq : Q v ⟨h, g, dr, tt, os⟩) : wpAny (model prog w) A (getAttrBy (.ref e) (.str name tk) fill expr) Q E ⟨h, g, dr, tt, os⟩ := by
  have f3 := PySem.F.attr_Exception.ga.bind (.ref e)
  have hx0 : (expr && onTheHeap (Value.builtin "BaseException.__getattribute__")) = false := by cases expr <;> rfl
  have hx2 : (Value.builtin "BaseException.__getattribute__" == Value.builtin "object.__getattribute__") = false := by decide +kernel
  have hx1 : (onTheHeap (Value.ref 52) && Value.builtin "BaseException.__getattribute__" == Value.builtin "object.__getattribute__") = false := by rw [hx2]; rfl
  repeat (any_goals (first | assumption | (with_reducible refine wpAny_loadPart_at hx ?_; rw [hcls]) | with_reducible refine (looks_findIn X hg).here ?_ | with_reducible refine (looks_findIn X hh).here ?_ | wp_step))
  refine callX X hc ha hb hx hcls hdt hdx ho hN hv ?_
  show wpAny _ _ (handedOut v) _ _ _
  rw [hho]
  exact wpAny_pure hq
end
section
variable {prog : Program} {w : World} {A : Around} {E : Value → Shared → Prop} {s : Shared} {h₀ : Heap} {L : Addr} {m : Str → Option Value} {news : List (Addr × Obj)} {K : Frag} {e d : Addr} {oe od : Obj} {vs : Array Value} {mA : Str → Option Value} {name : Str} {v : Value}
/-- an attribute of the caught exception, out of its own dict -/
theorem getX {expr : Bool} {Q : Value → Shared → Prop} (F : Fr h₀ L s.heap m) (X₀ : K.In h₀) (N : News h₀ L s.heap news) (hm : (e, oe) ∈ news) (hmd : (d, od) ∈ news) (hcls : oe.cls = .ref 52) (hdt : oe.data = .fields vs) (hdx : oe.dict = some d) (hN : NsO od mA)
    (hc : clsIn K 52 = some dErr) (ha : findIn K (.ref 52) name = some none) (hb : mroIn K 52 (.type "BaseException") = some true) (hg : findIn K (.ref 52) "__getattribute__" = some (some (.builtin "BaseException.__getattribute__"))) (hh : findIn K (.ref 52) "__getattr__" = some none)
    (hv : mA name = some v) (hho : handedOut v = pure v) (hq : Q v { s with toks := s.toks + 1 }) : wpAny (model prog w) A (getAttr (.ref e) name expr) Q E s := by
  unfold getAttr
  obtain ⟨hp, g, dr, tt, os⟩ := s
  exact wpAny_bind (wpAny_mkText (byX (X₀.keeps F.keep) hc ha hb hg hh (N _ hm).1 hcls hdt hdx (N _ hmd).1 hN hv hho hq))
end
theorem Raise_ownX {prog : Program} {w : World} {A : Around} {E : Value → Shared → Prop} {s : Shared} {K : Frag} {h : Heap} {env : Env} {x : PySem.Expr} {pos : Pos} {Q : Flow → Shared → Prop} (_X : K.In h) (hh : A.handled = none) (q : wpAny (model prog w) A (eval x env) (RaisableX K E) E s) :
    wpAny (model prog w) A (exec (.Raise (some x) none pos) env) Q E s := Raise_own hh q
theorem RaisableX.intro {K : Frag} {E : Value → Shared → Prop} {e t L : Addr} {od : Option Addr} {oC : Obj} {s₁ : Shared} {h₀ : Heap} {news : List (Addr × Obj)} (X : K.In s₁.heap) (a : subIn K (.ref 52) (.type "BaseException") = some true) (b : K.lookup 52 = some oC) (c : oC.cls = .type "type")
    (N : News h₀ L s₁.heap news) (hm : (e, excObj t od) ∈ news) (h : E (.ref e) s₁) : RaisableX K E (.ref e) s₁ := ⟨e, t, od, oC, rfl, X, a, b, c, (N _ hm).1, h⟩
/-- the handler's name goes behind its suite -/
theorem nameGoesX {M : Model} {A : Around} {E : Value → Shared → Prop} {s : Shared} {name : Str} {scope : Scope} {L a : Addr} {cd : Value} {h₀ : Heap} {m : Str → Option Value} {news : List (Addr × Obj)} {n : Str} {pos : Pos} {Q : Unit → Shared → Prop} (F : Fr h₀ L s.heap m) (N : News h₀ L s.heap news)
    (h : ∀ h' v, Fr h₀ L h' (fun x => if x = n then v else m x) → News h₀ L h' news → Q () { s with heap := h', toks := s.toks + 1 })
    (hk : scope.kind = .function := by rfl) (hl : (envOfC name scope L a cd).kindOf n = some .local := by rfl) :
    wpAny M A (do bindName (envOfC name scope L a cd) n .none; unbindBehindTheSuite (envOfC name scope L a cd) n pos) Q E s :=
  wpAny_nameGoes_keeps hl F.ns (by show (scope.kind == .class || (scope.kind == .module && L != mainGlobals)) = false; rw [hk]; rfl) fun h' v hn hs => h h' v (F.set hn hs) (N.set hs)
theorem pw_of_rising : ∀ (p : Str) (l : List Str), risingS p l = true → (p :: l).Pairwise (fun a b => ¬ b.cps.toList < a.cps.toList)
  | p, [], _ => List.pairwise_singleton _ _
  | p, x :: r, h => by
    have h' : (!PySem.Spec.ltCps x.cps.toList p.cps.toList && risingS x r) = true := h
    rw [Bool.and_eq_true, Bool.not_eq_true', PyProof.Rows.ltCps_eq, decide_eq_false_iff_not] at h'
    have ih := pw_of_rising x r h'.2
    refine List.pairwise_cons.mpr ⟨fun y hy => ?_, ih⟩
    rcases List.mem_cons.mp hy with rfl | hy
    · exact h'.1
    · have h1 := (List.pairwise_cons.mp ih).1 y hy
      exact List.le_trans (show p.cps.toList ≤ x.cps.toList from h'.1) (show x.cps.toList ≤ y.cps.toList from h1)
theorem pw_of_sorted : ∀ (l : List Str), sortedS l = true → l.Pairwise (fun a b => ¬ b.cps.toList < a.cps.toList)
  | [], _ => .nil
  | x :: r, h => pw_of_rising x r h
theorem str_anti {a b : Str} (h1 : ¬ b.cps.toList < a.cps.toList) (h2 : ¬ a.cps.toList < b.cps.toList) : a = b := by
  have e := List.le_antisymm (show a.cps.toList ≤ b.cps.toList from h1) (show b.cps.toList ≤ a.cps.toList from h2)
  cases a; cases b
  exact congrArg _ (Array.toList_inj.mp e)
theorem sorted_one : ∀ {a b : List Str}, a.Perm b → a.Pairwise (fun a b => ¬ b.cps.toList < a.cps.toList) → b.Pairwise (fun a b => ¬ b.cps.toList < a.cps.toList) → a = b
  | [], _, p, _, _ => p.nil_eq
  | x :: r, b, p, ha, hb => by
    cases b with
    | nil => exact absurd p.length_eq (by simp)
    | cons y t =>
      have hx : x ∈ y :: t := p.mem_iff.mp (.head _)
      have hy : y ∈ x :: r := p.mem_iff.mpr (.head _)
      have e : x = y := by
        rcases List.mem_cons.mp hx with h | h
        · exact h
        · rcases List.mem_cons.mp hy with h' | h'
          · exact h'.symm
          · exact str_anti ((List.pairwise_cons.mp ha).1 y h') ((List.pairwise_cons.mp hb).1 x h)
      subst e
      rw [sorted_one (List.Perm.cons_inv p) (List.pairwise_cons.mp ha).2 (List.pairwise_cons.mp hb).2]
theorem sorted_eq {a b k : List Str} (pa : a.Perm k) (pb : b.Perm k) (ha : sortedS a = true) (hb : sortedS b = true) : a = b :=
  sorted_one (pa.trans pb.symm) (pw_of_sorted a ha) (pw_of_sorted b hb)
theorem strs_of_keys : ∀ (ke : List (Str × Value)) (vs : List Value), vs.length = ke.length → (∀ (j : Nat) (v : Value), vs[j]? = some v → ∃ k x, ke[j]? = some (k, x) ∧ Value.isStrOf k v = true) → StrsAre vs (ke.map (·.1))
  | [], [], _, _ => .nil
  | [], _ :: _, h, _ => by simp at h
  | _ :: _, [], h, _ => by simp at h
  | (k, x) :: ke, v :: vs, h, hv => by
    obtain ⟨k', x', e, hk⟩ := hv 0 v rfl
    obtain ⟨t, rfl⟩ := Value.isStrOf_shape hk
    have e' : (k, x) = (k', x') := Option.some.inj e
    cases e'
    exact .cons k t (strs_of_keys ke vs (by simpa using h) fun j u hu => hv (j + 1) u (by simpa using hu))
section
variable {prog : Program} {w : World} {h₀ : Heap} {L : Addr} {A : Around} {E : Value → Shared → Prop} {Q : Value → Shared → Prop} {s : Shared} {m : Str → Option Value} {news : List (Addr × Obj)} {e D : Addr} {oe : Obj} {ke : List (Str × Value)}
theorem sortStrs {vs : List Value} {ss : List Str} {n : Nat} (F : Fr h₀ L s.heap m) (N : News h₀ L s.heap ((D, listOf vs.toArray n) :: news)) (hD : ∀ q ∈ news, q.1 < D) (hS : StrsAre vs ss) (h64 : ss.length < 64)
    (h : ∀ h' vs' ss' c, Fr h₀ L h' m → News h₀ L h' ((D, listOf (List.toArray vs') c) :: news) → StrsAre vs' ss' → ss'.Perm ss → sortedS ss' = true → Q .none { s with heap := h' }) :
    wpAny (model prog w) A (call (.builtin "list.sort") [.ref D]) Q E s := by
  have z := N (D, listOf vs.toArray n) (.head _)
  have ho : s.heap.get? D = some (seqObj "list" vs.toArray n) := z.1
  have hlen : vs.length = ss.length := by have := congrArg List.length hS.strs; simpa using this
  refine wpAny_call_entry PyProof.Rows.slot_list_sort ⟨_, z.1, rfl⟩ PyProof.Rows.entry_list_sort
    (list_sort_treeK PyProof.Rows.strKind_oneLt ho hS.keysOf (fun v₁ v₂ rest e => keyKind_strs (by rw [← e]; exact hS)) (by omega) fun st' hp hs => ?_) (PyProof.Rows.args_list_sort _)
  obtain ⟨ss', h1, h2, h3⟩ := sorted_out_str hS hp hs
  refine ⟨.none, rfl, ?_⟩
  generalize Array.map (fun x => x.2) (arrOf st') = out at h1
  obtain ⟨c, hc⟩ := sortedHeap_at (vs := vs) (out := out) ho
  have F4 : Fr h₀ L (sortedHeap s.heap D vs out) m :=
    ksk_fr (((ksk_fr F (Heap.SameBut.update s.heap D (Obj.mapSeq fun _ => #[])) z.2.1 z.2.2).push (seqObj "tuple" vs.toArray 0)).push (seqObj "list" #[] 0)) (Heap.SameBut.update _ D (Obj.mapSeq fun _ => out)) z.2.1 z.2.2
  refine h _ out.toList ss' c F4 (fun p hq => ?_) h1 h2 h3
  rcases List.mem_cons.mp hq with rfl | hq
  · exact ⟨by rw [Array.toArray_toList]; exact hc, z.2⟩
  · have y := N p (.tail _ hq)
    exact ⟨(sortedHeap_old (Nat.ne_of_lt (hD p hq)) (Heap.lt_size y.1)).trans y.1, y.2⟩
theorem sortedO (hh : A.handled = none) (F : Fr h₀ L s.heap m) (N : News h₀ L s.heap news) (hm : (e, oe) ∈ news) (de : oe.IsDictOf (PySem.strKind prog w) ke) (lo : (e == sysModules) = false) (hn : ke.length ≤ 20)
    (h : ∀ (D : Addr) h' tk vs' ss' c, Fr h₀ L h' m → News h₀ L h' ((D, listOf (List.toArray vs') c) :: news) → StrsAre vs' ss' → ss'.Perm (ke.map (·.1)) → sortedS ss' = true → (∀ q ∈ news, q.1 < D) → Q (.ref D) { s with heap := h', toks := tk }) :
    wpAny (model prog w) A (call (.builtin "sorted") [.ref e]) Q E s := by
  obtain ⟨ep, hat⟩ := KdkAt.of de
  refine kdu_sorted (kdl_dict (knd := PySem.strKind prog w) (kvs := ke) (ep := ep) lo) hh F N (hat.dictAt (N _ hm).1) (kdl_size (by omega)) fun D h' tk vs F' N' l1 hl hv => ?_
  have hS := strs_of_keys ke vs hl hv
  refine sortStrs F' N' l1 hS (by rw [List.length_map]; omega) fun h2 vs' ss' c F2 N2 a b c' => ?_
  exact h D h2 tk vs' ss' c F2 N2 a b c' l1
end
section
open PySem.SeqAt
variable {prog : Program} {w : World} {h₀ : Heap} {L : Addr} {A : Around} {E : Value → Shared → Prop} {Q : Value → Shared → Prop} {s : Shared} {news : List (Addr × Obj)} {a b : Addr} {vs us : List Value} {ss : List Str} {n k : Nat}
theorem strs_at : ∀ {vs : List Value} {ss : List Str}, StrsAre vs ss → ∀ (j : Nat) (h : j < vs.length), ∃ t, vs[j] = .str (ss.getD j default) t
  | _, _, .nil, _, h => absurd h (by simp)
  | _, _, .cons x t _, 0, _ => ⟨t, rfl⟩
  | _, _, .cons x t r, j + 1, h => by
    obtain ⟨t', e⟩ := strs_at r j (by simpa using h)
    exact ⟨t', by simpa using e⟩
theorem strs_len {vs : List Value} {ss : List Str} (hS : StrsAre vs ss) : vs.length = ss.length := by have := congrArg List.length hS.strs; simpa using this
/-- Two lists of the same texts do not differ. -/
theorem ne_lists (N : News h₀ L s.heap news) (ha : (a, listOf vs.toArray n) ∈ news) (hb : (b, listOf us.toArray k) ∈ news) (h1 : StrsAre vs ss) (h2 : StrsAre us ss) (hu : A.units + 1 < cLine) (h : Q (.bool false) s) :
    wpAny (model prog w) A (compareOp .NotEq (.ref a) (.ref b)) Q E s := by
  have la : s.heap.IsList a vs.toArray := ⟨_, (N _ ha).1, rfl, n, rfl⟩
  have lb : s.heap.IsList b us.toArray := ⟨_, (N _ hb).1, rfl, k, rfl⟩
  have l1 := strs_len h1
  have l2 := strs_len h2
  have key := RcNeAt.lists (A := A) la lb (by simp [l1, l2]) (by omega) (e := fun _ => true) fun j x1 x2 => by
    obtain ⟨t1, e1⟩ := strs_at h1 j (by simpa using x1)
    obtain ⟨t2, e2⟩ := strs_at h2 j (by simpa using x2)
    have e1' : vs.toArray[j] = .str (ss.getD j default) t1 := by simpa using e1
    have e2' : us.toArray[j] = .str (ss.getD j default) t2 := by simpa using e2
    rw [e1', e2']
    have := EqAt.str_str (A := A.in1) (s := s) (ss.getD j default) t1 (ss.getD j default) t2
    rwa [beq_self_eq_true] at this
  show wpAny (model prog w) A (richCompare CmpOp.NotEq _ _) Q E s
  refine key _ _ _ _ ?_
  have e : ((List.range vs.toArray.size).all fun _ => true) = true := List.all_eq_true.mpr fun _ _ => rfl
  rw [e]
  exact h
end

noncomputable def sortOf (K : List Str) : List Str := open Classical in if h : ∃ ss : List Str, ss.Perm K ∧ sortedS ss = true then Classical.choose h else []
theorem sortOf_is {K ss : List Str} (h1 : ss.Perm K) (h2 : sortedS ss = true) : ss = sortOf K := by
  have h : ∃ ss : List Str, ss.Perm K ∧ sortedS ss = true := ⟨ss, h1, h2⟩
  have e : sortOf K = Classical.choose h := by unfold sortOf; exact dif_pos h
  rw [e]
  have c := Classical.choose_spec h
  exact sorted_eq h1 c.1 h2 c.2
section
variable {prog : Program} {w : World} {h₀ : Heap} {L : Addr} {A : Around} {E : Value → Shared → Prop} {Q : Value → Shared → Prop} {s : Shared} {m : Str → Option Value} {news : List (Addr × Obj)} {e D : Addr} {oe : Obj} {ke : List (Str × Value)} {K : List Str}
theorem sortedO2 (hh : A.handled = none) (F : Fr h₀ L s.heap m) (N : News h₀ L s.heap news) (hm : (e, oe) ∈ news) (de : oe.IsDictOf (PySem.strKind prog w) ke) (lo : (e == sysModules) = false) (hn : ke.length ≤ 20) (hK : ke.map (·.1) = K)
    (h : ∀ (D : Addr) h' tk vs' c, Fr h₀ L h' m → News h₀ L h' ((D, listOf (List.toArray vs') c) :: news) → StrsAre vs' (sortOf K) → (∀ q ∈ news, q.1 < D) → Q (.ref D) { s with heap := h', toks := tk }) :
    wpAny (model prog w) A (call (.builtin "sorted") [.ref e]) Q E s := by
  subst hK
  refine sortedO hh F N hm de lo hn fun D h' tk vs' ss' c F' N' a b c' l => ?_
  exact h D h' tk vs' c F' N' (by rw [← sortOf_is b c']; exact a) l
end
def base (dg lm le lp : Addr) (u : Str → Option Value) : Str → Option Value := fun y =>
  if y = Str.ofString "design" then some (.ref dg) else if y = Str.ofString "made" then some (.ref lm) else if y = Str.ofString "entered" then some (.ref le) else if y = Str.ofString "paths_x" then some (.ref lp) else u y
theorem base_of {h₀ h : Heap} {L dg lm le lp : Addr} {m : Str → Option Value} (F : Fr h₀ L h m) (h1 : m (Str.ofString "design") = some (.ref dg)) (h2 : m (Str.ofString "made") = some (.ref lm)) (h3 : m (Str.ofString "entered") = some (.ref le)) (h4 : m (Str.ofString "paths_x") = some (.ref lp)) :
    Fr h₀ L h (base dg lm le lp m) := by
  have e : base dg lm le lp m = m := by
    funext y
    unfold base
    split
    · rename_i e; rw [e, h1]
    · split
      · rename_i e; rw [e, h2]
      · split
        · rename_i e; rw [e, h3]
        · split
          · rename_i e; rw [e, h4]
          · rfl
  rw [e]; exact F
structure Heads (Λ : List (Addr × Obj)) (L : Addr) (oc : Obj) (lb : Addr) (us : List Value) (nb : Nat) (dg dd : Addr) (des : List DictEntry) (dn : Nat) (ls : Addr) (vS : List Value) (kS : Nat) (lm : Addr) (vm : List Value) (kM : Nat) (le : Addr) (vx : List Value) (kX : Nat) (lp : Addr) (vP : List Value) (kP : Nat) : Prop where
  c : (L + 1, oc) ∈ Λ
  b : (lb, listOf us.toArray nb) ∈ Λ
  g : (dg, instObj 190 dd) ∈ Λ
  d : (dd, dictOf des dn) ∈ Λ
  s : (ls, listOf vS.toArray kS) ∈ Λ
  m : (lm, listOf vm.toArray kM) ∈ Λ
  e : (le, listOf vx.toArray kX) ∈ Λ
  p : (lp, listOf vP.toArray kP) ∈ Λ
structure Quad (Λ : List (Addr × Obj)) (a d e x : Addr) (es : List DictEntry) (en : Nat) (oe ox : Obj) : Prop where
  a : (a, instObj 127 d) ∈ Λ
  d : (d, dictOf es en) ∈ Λ
  e : (e, oe) ∈ Λ
  x : (x, ox) ∈ Λ
/-- What the row of a scope holds. -/
structure ScF (dg e : Addr) (es : List DictEntry) (pa : Str) (tpa : Tok) (num : Int) (tnum : Tok) (snt : Str) (tnt : Tok) : Prop where
  g2 : getL (Str.ofString "design") es = some (some (.ref dg))
  g3 : getL (Str.ofString "path") es = some (some (.str pa tpa))
  g4 : getL (Str.ofString "entries") es = some (some (.ref e))
  g5 : getL (Str.ofString "number") es = some (some (.int num tnum))
  g6 : getL (Str.ofString "nettype") es = some (some (.str snt tnt))
  g7 : getL (Str.ofString "declare") es = some none
  g8 : getL (Str.ofString "child") es = some none
  g9 : getL (Str.ofString "descend") es = some none
theorem ltcons {d : Nat} {b : Addr} {o : Obj} {l : List (Addr × Obj)} (h : LtH b d) (r : AllLt d l) : AllLt d ((b, o) :: l) := ⟨h, r⟩
theorem allvia {d t : Nat} : ∀ {l : List (Addr × Obj)}, LtH t d → AllLt t l → AllLt d l
  | [], _, h => h
  | (_, _) :: _, h, r => ⟨Nat.lt_trans r.1 h, allvia h r.2⟩
theorem news_drop2 {h₀ h : Heap} {L : Addr} {p q : Addr × Obj} {l : List (Addr × Obj)} (N : News h₀ L h (p :: q :: l)) : News h₀ L h l := fun r hr => N r (List.mem_cons_of_mem _ (List.mem_cons_of_mem _ hr))
section
variable {prog : Program} {w : World} {h₀ : Heap} {L fa : Addr} {cd : Value} {mg mb : Str → Option Value} {mean : ExcName → Option Value} {E : Value → Shared → Prop} {Q : Value → Shared → Prop} {s : Shared} {m : Str → Option Value} {news : List (Addr × Obj)} {g : Obj → List (Addr × Obj)} {lb : Addr} {us : List Value} {n : Nat} {ns : List Int} {most : Int} {tm : Tok}
theorem bean_U
  (X : (hd.heap_39 w.params).In h₀) (T : Top hd.view_39 (looseW hd.view_39 [Str.ofString "GateloomError"]) mean mg mb h₀) (B : Below callerA h₀ [] h₀)
  (F : Fr h₀ L s.heap m) (N : News h₀ L s.heap news) (U : UpdF lb (listOf us.toArray n) news g)
  (hi : IntsAre us ns) (hn : ns.length ≤ 80) (hk : ∀ k ∈ ns, 0 ≤ k ∧ k < 37) (hm : 1 ≤ most ∧ most ≤ 20)
  (h : ∀ h' tk r t us' ns' n', Fr h₀ L h' m → News h₀ L h' (g (listOf us'.toArray n')) → IntsAre us' ns' → ns'.length ≤ 80 → (∀ k ∈ ns', 0 ≤ k ∧ k < 37) → 0 ≤ r → r < most → Q (.int r t) { s with heap := h', toks := tk }) :
  wpAny (model prog w) (callerA.deeper (lawEnv L fa cd)) (call (.ref 208) [.ref lb, .int most tm]) Q E s := by
  obtain ⟨pre, post, e1, e2, a, b⟩ := U.split
  subst e1
  refine bean_call (n := n) (own := pre ++ post) X T B F (fun p hp => N p ?_) ?_ hi hn hk hm fun h' tk r t us' ns' n' F' N' x1 x2 x3 x4 x5 => h h' tk r t us' ns' n' F' (fun p hp => N' p ?_) x1 x2 x3 x4 x5
  · simp only [List.mem_cons, List.mem_append] at hp ⊢; rcases hp with h | h | h <;> simp [h]
  · intro p hp b' hb'
    rw [List.mem_singleton.mp hb']
    exact (List.mem_append.mp hp).elim (a p) (b p)
  · rw [e2] at hp
    simp only [List.mem_cons, List.mem_append] at hp ⊢; rcases hp with h | h | h <;> simp [h]
end
section
variable {prog : Program} {w : World} {h₀ : Heap} {L fa : Addr} {A : Around} {E : Value → Shared → Prop} {Q : Value → Shared → Prop} {s : Shared} {news : List (Addr × Obj)} {l : Addr} {vs : List Value} {ss : List Str} {c : Nat} {k : Int} {u : Tok}
theorem pickStr {value slice : PySem.Expr} (N : News h₀ L s.heap news) (hm : (l, listOf vs.toArray c) ∈ news) (hS : StrsAre vs ss) (h0 : 0 ≤ k) (hhi : k < (ss.length : Int)) (h2 : ss.length ≤ 20) (h : ∀ x t, x ∈ ss → Q (.str x t) s)
    (hs : subscripted slice false (.ref l) (.int k u) = operate [.ref l, .int k u] (getItem (.ref l) (.int k u)) := by with_unfolding_all rfl) :
    wpAny (model prog w) A (subscriptTail value slice (.ref l) (.int k u)) Q E s := by
  have hl := strs_len hS
  have hj : k.toNat < vs.length := by omega
  obtain ⟨t, e⟩ := strs_at hS k.toNat hj
  refine item0 (v := .str (ss.getD k.toNat default) t) N hm h0 (by omega) ?_ (h _ _ ?_) hs
  · rw [List.getElem?_toArray, List.getElem?_eq_getElem hj, e]
  · rw [List.getD_eq_getElem?_getD, List.getElem?_eq_getElem (by omega : k.toNat < ss.length)]
    exact List.getElem_mem _
end
section
variable {prog : Program} {w : World} {A : Around} {E : Value → Shared → Prop} {env : Env}
theorem execs_split {Q : Flow → Shared → Prop} (xs ys : List Stmt) {s : Shared} (h : wpAny (model prog w) A (execs xs env) (fun f s' => match f with | .next => wpAny (model prog w) A (execs ys env) Q E s' | f => Q f s') E s) : wpAny (model prog w) A (execs (xs ++ ys) env) Q E s := by
  intro Γ p hΓ
  have key : ∀ (xs : List Stmt) p s, Sem.wp (model prog w) Γ (execs xs env) (fun f p' s' => match f with | .next => Sem.wp (model prog w) Γ (execs ys env) (fun a _ s' => Q a s') (fun e _ s' => E e s') p' s' | f => Q f s') (fun e _ s' => E e s') p s →
      Sem.wp (model prog w) Γ (execs (xs ++ ys) env) (fun a _ s' => Q a s') (fun e _ s' => E e s') p s := by
    intro xs
    induction xs with
    | nil => intro p s h; exact h
    | cons x xs ih =>
      intro p s h
      rw [execs_cons, Sem.wp_bind'] at h
      rw [List.cons_append, execs_cons, Sem.wp_bind']
      refine Sem.wp_mono _ Γ _ (fun f p' s' h' => ?_) (fun _ _ _ h' => h') _ _ h
      cases f <;> first | exact ih _ _ h' | exact h'
  refine key xs p s (Sem.wp_mono _ Γ _ (fun f p' s' h' => ?_) (fun _ _ _ h' => h') _ _ (h Γ p hΓ))
  cases f <;> first | exact h' Γ p' hΓ | exact h'
end
structure Sc where
  a : Addr
  d : Addr
  e : Addr
  x : Addr
  es : List DictEntry
  en : Nat
  oe : Obj
  ox : Obj
  ke : List (Str × Value)
  kx : List (Str × Value)
  pa : Str
  tpa : Tok
  num : Int
  tnum : Tok
  snt : Str
  tnt : Tok
def Ent (Λ : List (Addr × Obj)) (as : List Addr) (v u : Value) : Prop :=
  (∃ (t t' : Addr) (k k' : Tok) (n : Int) (i j : Tok), v = .ref t ∧ u = .ref t' ∧ (t, tup [.str (Str.ofString "sig") k, .int n i]) ∈ Λ ∧ (t', tup [.str (Str.ofString "sig") k', .int n j]) ∈ Λ) ∨
  (∃ (t : Addr) (k : Tok) (j : Nat) (a : Addr) (tk : Tok), v = .ref t ∧ u = .int (j : Int) tk ∧ as[j]? = some a ∧ (t, tup [.str (Str.ofString "scope") k, .ref a]) ∈ Λ)
theorem Ent.mono {Λ Λ' : List (Addr × Obj)} {as as' : List Addr} {v u : Value} (h : Ent Λ as v u) (hΛ : ∀ t vs, (t, tup vs) ∈ Λ → (t, tup vs) ∈ Λ') (ha : ∀ (j : Nat) (a : Addr), as[j]? = some a → as'[j]? = some a) : Ent Λ' as' v u := by
  rcases h with ⟨t, t', k, k', n, i, j, e1, e2, m1, m2⟩ | ⟨t, k, j, a, tk, e1, e2, e3, m⟩
  · exact .inl ⟨t, t', k, k', n, i, j, e1, e2, hΛ _ _ m1, hΛ _ _ m2⟩
  · exact .inr ⟨t, k, j, a, tk, e1, e2, ha _ _ e3, hΛ _ _ m⟩
def NotTup (o : Obj) : Prop := ∀ vs, o ≠ tup vs
theorem notTup_list {vs : List Value} {n : Nat} : NotTup (listOf vs.toArray n) := fun us h => by
  have := congrArg Obj.cls h
  simp [PySem.W.listOf, tup] at this
theorem notTup_inst {c d : Addr} : NotTup (instObj c d) := fun us h => by
  have := congrArg Obj.cls h
  cases this
theorem notTup_dict {es : List DictEntry} {n : Nat} : NotTup (dictOf es n) := fun us h => by
  have := congrArg Obj.data h
  cases this
theorem notTup_cell {o : Obj} {v : Option Value} (hc : o.data = .cell v) : NotTup o := fun us h => by
  rw [h] at hc
  cases hc
section
variable {prog : Program} {w : World}
theorem notTup_is {o : Obj} {kvs : List (Str × Value)} (hd : o.IsDictOf (PySem.strKind prog w) kvs) : NotTup o := fun us h => by
  subst h
  obtain ⟨es, ep, _, h2, _⟩ := hd
  cases h2
theorem apart_tup {h₀ h : Heap} {L : Addr} {Λ : List (Addr × Obj)} {t b : Addr} {vs : List Value} {o : Obj} (N : News h₀ L h Λ) (m1 : (t, tup vs) ∈ Λ) (m2 : (b, o) ∈ Λ) (ho : NotTup o) : t ≠ b := by
  rintro rfl
  have e1 := (N _ m1).1
  have e2 := (N _ m2).1
  rw [e1] at e2
  exact ho vs (Option.some.inj e2).symm
end
def off (l : List (Addr × Obj)) (adr : List Addr) : List (Addr × Obj) := l.filter fun p => !adr.contains p.1
theorem mem_off {l : List (Addr × Obj)} {adr : List Addr} {p : Addr × Obj} : p ∈ off l adr ↔ p ∈ l ∧ p.1 ∉ adr := by
  unfold off
  rw [List.mem_filter]
  simp
theorem off_own {l : List (Addr × Obj)} {adr : List Addr} : OwnOff (off l adr) adr := fun p hp b hb e => (mem_off.mp hp).2 (e ▸ hb)
theorem ap {l : List Addr} {a b : Addr} (h : l.Nodup) (i j : Nat) (hij : i < j) (h1 : l[i]? = some a) (h2 : l[j]? = some b) : Apart a b := fun e => by
  obtain ⟨x1, y1⟩ := List.getElem?_eq_some_iff.mp h1
  obtain ⟨x2, y2⟩ := List.getElem?_eq_some_iff.mp h2
  have := (List.pairwise_iff_getElem.mp h) i j x1 x2 hij
  rw [y1, y2] at this
  exact this e
section
variable (prog : Program) (w : World)
structure ScOk (Λ : List (Addr × Obj)) (dg : Addr) (k : Nat) (as : List Addr) (c : Sc) : Prop where
  q : Quad Λ c.a c.d c.e c.x c.es c.en c.oe c.ox
  f : ScF dg c.e c.es c.pa c.tpa c.num c.tnum c.snt c.tnt
  de : c.oe.IsDictOf (PySem.strKind prog w) c.ke
  dx : c.ox.IsDictOf (PySem.strKind prog w) c.kx
  le1 : (c.e == sysModules) = false
  lx1 : (c.x == sysModules) = false
  hpa : c.pa.length ≤ 3 + 2 * k
  hke : c.ke.length ≤ k
  keys : c.kx.map (·.1) = c.ke.map (·.1)
  ents : ∀ nm v, valueAt c.ke nm = some v → ∃ u, valueAt c.kx nm = some u ∧ Ent Λ as v u
structure LInv (L lb dg dd ls lm le : Addr) (k : Nat) (Λ : List (Addr × Obj)) (lp : Addr) (oc : Obj) (us : List Value) (ns : List Int) (nb : Nat) (des : List DictEntry) (dn : Nat) (vS : List Value) (kS kM kX : Nat) (vP : List Value) (kP : Nat) (ss : List Str) (scs : List Sc) : Prop where
  hd : Heads Λ L oc lb us nb dg dd des dn ls vS kS lm (scs.map fun c => .ref c.a) kM le (scs.map fun c => .ref c.x) kX lp vP kP
  hoc : oc.data = .cell (some (.ref lb))
  hi : IntsAre us ns
  hn : ns.length ≤ 80
  hk : ∀ i ∈ ns, 0 ≤ i ∧ i < 37
  g1 : getL (Str.ofString "scopes") des = some (some (.ref ls))
  g9 : getL (Str.ofString "add_scope") des = some none
  hS : StrsAre vS ss
  hP : StrsAre vP ss
  hss : ss.length ≤ 1 + k
  hsc : scs.length ≤ 1 + k
  first : ∃ c, scs[0]? = some c ∧ c.num = 0
  ok : ∀ (j : Nat) (c : Sc), scs[j]? = some c → ScOk prog w Λ dg k (scs.map (·.a)) c
  nd : ∀ (j : Nat) (c : Sc), scs[j]? = some c → List.Nodup [lp, L + 1, lb, dg, dd, ls, lm, le, c.a, c.d, c.e, c.x]
  nd2 : ∀ (i j : Nat) (c c' : Sc), scs[i]? = some c → scs[j]? = some c' → i ≠ j → ∀ p ∈ [c.a, c.d, c.e, c.x], p ∉ [c'.a, c'.d, c'.e, c'.x]
def JInv (L lb dg dd ls lm le : Addr) (k : Nat) (m : Str → Option Value) (Λ : List (Addr × Obj)) : Prop :=
  ∃ lp oc us ns nb des dn vS kS kM kX vP kP ss scs, LInv prog w L lb dg dd ls lm le k Λ lp oc us ns nb des dn vS kS kM kX vP kP ss scs ∧ ∃ u, m = base dg lm le lp u
end
theorem getset {α : Type} {l : List α} {i j : Nat} {x y : α} (h : (l.set i x)[j]? = some y) (hi : i < l.length) : (j = i ∧ y = x) ∨ (j ≠ i ∧ l[j]? = some y) := by
  rw [List.getElem?_set] at h
  by_cases e : i = j
  · subst e
    rw [if_pos rfl, if_pos hi] at h
    exact .inl ⟨rfl, (Option.some.inj h).symm⟩
  · rw [if_neg e] at h
    exact .inr ⟨fun q => e q.symm, h⟩
theorem isSome_keys {a b : List (Str × Value)} (h : a.map (·.1) = b.map (·.1)) (k : Str) : (valueAt a k).isSome = (valueAt b k).isSome := by
  have key : ∀ l : List (Str × Value), (valueAt l k).isSome = (l.map (·.1)).any fun q => decide (q = k) := fun l => by
    rw [← any_of_at, List.any_map]; rfl
  rw [key, key, h]
theorem at_app {kvs : List (Str × Value)} {k k' : Str} {v : Value} : valueAt (kvs ++ [(k, v)]) k' = (valueAt kvs k').or (if k = k' then some v else none) := by
  unfold valueAt
  rw [List.find?_append]
  cases e : kvs.find? (fun kv => decide (kv.1 = k')) with
  | some z => simp
  | none => by_cases h : k = k' <;> simp [h]
section
variable {prog : Program} {w : World} {h₀ : Heap} {L fa : Addr} {cd : Value} {mg mb : Str → Option Value} {mean : ExcName → Option Value} {E : Value → Shared → Prop} {s : Shared}
theorem ents_new {Λ Λ' : List (Addr × Obj)} {as as' : List Addr} {ke kx : List (Str × Value)} {nm : Str} {v u : Value} (h : ∀ n x, valueAt ke n = some x → ∃ y, valueAt kx n = some y ∧ Ent Λ as x y)
    (hΛ : ∀ t vs, (t, tup vs) ∈ Λ → (t, tup vs) ∈ Λ') (ha : ∀ (j : Nat) (a : Addr), as[j]? = some a → as'[j]? = some a) (h1 : (valueAt ke nm).isSome = false) (h2 : (valueAt kx nm).isSome = false) (hv : Ent Λ' as' v u) :
    ∀ n x, valueAt (stored ke nm v) n = some x → ∃ y, valueAt (stored kx nm u) n = some y ∧ Ent Λ' as' x y := by
  intro n x hx
  rw [stored_new h1, at_app] at hx
  rw [stored_new h2, at_app]
  cases e : valueAt ke n with
  | some z =>
    rw [e] at hx
    obtain ⟨y, hy, hE⟩ := h n z e
    have : z = x := Option.some.inj hx
    subst this
    exact ⟨y, by rw [hy]; rfl, hE.mono hΛ ha⟩
  | none =>
    rw [e] at hx
    by_cases hn : nm = n
    · subst hn
      rw [if_pos rfl] at hx ⊢
      have : v = x := Option.some.inj hx
      subst this
      refine ⟨u, ?_, hv⟩
      cases e2 : valueAt kx nm with
      | none => rfl
      | some z => rw [e2] at h2; cases h2
    · rw [if_neg hn] at hx
      cases hx
theorem keys_new {ke kx : List (Str × Value)} {nm : Str} {v u : Value} (h : kx.map (·.1) = ke.map (·.1)) (h1 : (valueAt ke nm).isSome = false) (h2 : (valueAt kx nm).isSome = false) :
    (stored kx nm u).map (·.1) = (stored ke nm v).map (·.1) := by
  rw [stored_new h1, stored_new h2, List.map_append, List.map_append, h]; rfl
theorem ScOk.mono {Λ Λ' : List (Addr × Obj)} {dg : Addr} {k : Nat} {as as' : List Addr} {c : Sc} (C : ScOk prog w Λ dg k as c) (hq : Quad Λ' c.a c.d c.e c.x c.es c.en c.oe c.ox)
    (hΛ : ∀ t vs, (t, tup vs) ∈ Λ → (t, tup vs) ∈ Λ') (ha : ∀ (j : Nat) (a : Addr), as[j]? = some a → as'[j]? = some a) : ScOk prog w Λ' dg (k + 1) as' c where
  q := hq
  f := C.f
  de := C.de
  dx := C.dx
  le1 := C.le1
  lx1 := C.lx1
  hpa := Nat.le_trans C.hpa (by omega)
  hke := Nat.le_succ_of_le C.hke
  keys := C.keys
  ents := fun nm v h => let ⟨u, a, b⟩ := C.ents nm v h; ⟨u, a, b.mono hΛ ha⟩
theorem map_set {α β : Type} {l : List α} {i : Nat} {x y : α} {f : α → β} (h : l[i]? = some x) (e : f y = f x) : (l.set i y).map f = l.map f := by
  rw [List.map_set, e]
  obtain ⟨hi, rfl⟩ := List.getElem?_eq_some_iff.mp h
  apply List.ext_getElem?
  intro j
  rw [List.getElem?_set]
  by_cases e2 : i = j
  · subst e2
    rw [if_pos rfl, if_pos (by simpa using hi)]
    simp [hi]
  · rw [if_neg e2]
end
section
variable {prog : Program} {w : World} {h₀ h : Heap} {L lb dg dd ls lm le : Addr} {k : Nat} {Λ Λ' : List (Addr × Obj)} {lp lp' : Addr} {oc : Obj} {us us' : List Value} {ns ns' : List Int} {nb nb' : Nat} {des : List DictEntry} {dn : Nat} {vS vS' : List Value} {kS kM kX kS' kM' kX' : Nat} {vP vP' : List Value} {kP kP' : Nat} {ss ss' : List Str} {scs scs' : List Sc} {i : Nat} {c : Sc}
theorem heads_in (I : LInv prog w L lb dg dd ls lm le k Λ lp oc us ns nb des dn vS kS kM kX vP kP ss scs) (hc : scs[i]? = some c) :
    ∀ b ∈ [lp, L + 1, lb, dg, dd, ls, lm, le, c.a, c.d, c.e, c.x], ∃ o, (b, o) ∈ Λ ∧ NotTup o := by
  intro b hb
  have C := I.ok i c hc
  simp only [List.mem_cons, List.not_mem_nil, or_false] at hb
  rcases hb with rfl | rfl | rfl | rfl | rfl | rfl | rfl | rfl | rfl | rfl | rfl | rfl
  · exact ⟨_, I.hd.p, notTup_list⟩
  · exact ⟨_, I.hd.c, notTup_cell I.hoc⟩
  · exact ⟨_, I.hd.b, notTup_list⟩
  · exact ⟨_, I.hd.g, notTup_inst⟩
  · exact ⟨_, I.hd.d, notTup_dict⟩
  · exact ⟨_, I.hd.s, notTup_list⟩
  · exact ⟨_, I.hd.m, notTup_list⟩
  · exact ⟨_, I.hd.e, notTup_list⟩
  · exact ⟨_, C.q.a, notTup_inst⟩
  · exact ⟨_, C.q.d, notTup_dict⟩
  · exact ⟨_, C.q.e, notTup_is C.de⟩
  · exact ⟨_, C.q.x, notTup_is C.dx⟩
/-- What a turn leaves of the ledger: everything off the twelve. -/
structure Kept (Λ Λ' : List (Addr × Obj)) (adr : List Addr) : Prop where
  k : ∀ p ∈ Λ, p.1 ∉ adr → p ∈ Λ'
theorem keptT (I : LInv prog w L lb dg dd ls lm le k Λ lp oc us ns nb des dn vS kS kM kX vP kP ss scs) (hc : scs[i]? = some c) (N : News h₀ L h Λ)
    (K : Kept Λ Λ' [lp, L + 1, lb, dg, dd, ls, lm, le, c.a, c.d, c.e, c.x]) : ∀ t vs, (t, tup vs) ∈ Λ → (t, tup vs) ∈ Λ' := by
  intro t vs ht
  refine K.k _ ht fun hb => ?_
  obtain ⟨o, ho, hn⟩ := heads_in I hc _ hb
  exact apart_tup N ht ho hn rfl
theorem keptQ (I : LInv prog w L lb dg dd ls lm le k Λ lp oc us ns nb des dn vS kS kM kX vP kP ss scs) (hc : scs[i]? = some c)
    (K : Kept Λ Λ' [lp, L + 1, lb, dg, dd, ls, lm, le, c.a, c.d, c.e, c.x]) {j : Nat} {c' : Sc} (hj : scs[j]? = some c') (hne : j ≠ i) : Quad Λ' c'.a c'.d c'.e c'.x c'.es c'.en c'.oe c'.ox := by
  have C := I.ok j c' hj
  have key : ∀ p ∈ [c'.a, c'.d, c'.e, c'.x], p ∉ [lp, L + 1, lb, dg, dd, ls, lm, le, c.a, c.d, c.e, c.x] := by
    intro p hp hq
    have hq' : p ∈ [lp, L + 1, lb, dg, dd, ls, lm, le] ++ [c.a, c.d, c.e, c.x] := hq
    rcases List.mem_append.mp hq' with h1 | h1
    · have nd : ([lp, L + 1, lb, dg, dd, ls, lm, le] ++ [c'.a, c'.d, c'.e, c'.x]).Nodup := I.nd j c' hj
      exact (List.nodup_append.mp nd).2.2 p h1 p hp rfl
    · exact I.nd2 j i c' c hj hc hne p hp h1
  exact ⟨K.k _ C.q.a (key _ (by simp)), K.k _ C.q.d (key _ (by simp)), K.k _ C.q.e (key _ (by simp)), K.k _ C.q.x (key _ (by simp))⟩
theorem inv_sig1 (I : LInv prog w L lb dg dd ls lm le k Λ lp oc us ns nb des dn vS kS kM kX vP kP ss scs) (hc : scs[i]? = some c) (N : News h₀ L h Λ)
    (K : Kept Λ Λ' [lp, L + 1, lb, dg, dd, ls, lm, le, c.a, c.d, c.e, c.x])
    (hi : IntsAre us' ns') (hn : ns'.length ≤ 80) (hk : ∀ i ∈ ns', 0 ≤ i ∧ i < 37)
    (H : Heads Λ' L oc lb us' nb' dg dd des dn ls vS kS lm (scs.map fun c => .ref c.a) kM le (scs.map fun c => .ref c.x) kX lp vP kP) (Q : Quad Λ' c.a c.d c.e c.x c.es c.en c.oe c.ox) :
    LInv prog w L lb dg dd ls lm le (k + 1) Λ' lp oc us' ns' nb' des dn vS kS kM kX vP kP ss scs where
  hd := H
  hoc := I.hoc
  hi := hi
  hn := hn
  hk := hk
  g1 := I.g1
  g9 := I.g9
  hS := I.hS
  hP := I.hP
  hss := Nat.le_succ_of_le I.hss
  hsc := Nat.le_succ_of_le I.hsc
  first := I.first
  ok := fun j c' hj => by
    have C := I.ok j c' hj
    by_cases e : j = i
    · subst e
      rw [hc] at hj
      cases hj
      exact C.mono Q (keptT I hc N K) fun _ _ h => h
    · exact C.mono (keptQ I hc K hj e) (keptT I hc N K) fun _ _ h => h
  nd := I.nd
  nd2 := I.nd2
theorem inv_sub1 {v v' : Value} {p : Str} {t t' : Tok} (I : LInv prog w L lb dg dd ls lm le k Λ lp oc us ns nb des dn vS kS kM kX vP kP ss scs) (hc : scs[i]? = some c) (N : News h₀ L h Λ)
    (K : Kept Λ Λ' [lp, L + 1, lb, dg, dd, ls, lm, le, c.a, c.d, c.e, c.x])
    (hi : IntsAre us' ns') (hn : ns'.length ≤ 80) (hk : ∀ i ∈ ns', 0 ≤ i ∧ i < 37) (hfr : ∀ p ∈ Λ, p.1 < lp')
    (H : Heads Λ' L oc lb us' nb' dg dd des dn ls (vS ++ [.str p t]) kS' lm (scs.map fun c => .ref c.a) kM le (scs.map fun c => .ref c.x) kX lp' (vS ++ [.str p t]) kP') (Q : Quad Λ' c.a c.d c.e c.x c.es c.en c.oe c.ox) :
    LInv prog w L lb dg dd ls lm le (k + 1) Λ' lp' oc us' ns' nb' des dn (vS ++ [.str p t]) kS' kM kX (vS ++ [.str p t]) kP' (ss ++ [p]) scs where
  hd := H
  hoc := I.hoc
  hi := hi
  hn := hn
  hk := hk
  g1 := I.g1
  g9 := I.g9
  hS := StrsAre.append' I.hS (.cons _ _ .nil)
  hP := StrsAre.append' I.hS (.cons _ _ .nil)
  hss := by rw [List.length_append]; have := I.hss; simp only [List.length_cons, List.length_nil]; omega
  hsc := Nat.le_succ_of_le I.hsc
  first := I.first
  ok := fun j c' hj => by
    have C := I.ok j c' hj
    by_cases e : j = i
    · subst e
      rw [hc] at hj
      cases hj
      exact C.mono Q (keptT I hc N K) fun _ _ h => h
    · exact C.mono (keptQ I hc K hj e) (keptT I hc N K) fun _ _ h => h
  nd := fun j c' hj => by
    have nd := List.nodup_cons.mp (I.nd j c' hj)
    refine List.nodup_cons.mpr ⟨fun hm => ?_, nd.2⟩
    obtain ⟨o, ho, _⟩ := heads_in I hj _ (List.mem_cons_of_mem _ hm)
    exact Nat.lt_irrefl _ (hfr _ ho)
  nd2 := I.nd2
theorem inv_sig0 {t1 t2 : Addr} {k1 k2 z1 z2 : Tok} {n : Int} {nm : Str} {oe' ox' : Obj} (I : LInv prog w L lb dg dd ls lm le k Λ lp oc us ns nb des dn vS kS kM kX vP kP ss scs) (hc : scs[i]? = some c) (N : News h₀ L h Λ)
    (K : Kept Λ Λ' [lp, L + 1, lb, dg, dd, ls, lm, le, c.a, c.d, c.e, c.x])
    (hi : IntsAre us' ns') (hn : ns'.length ≤ 80) (hk : ∀ i ∈ ns', 0 ≤ i ∧ i < 37)
    (H : Heads Λ' L oc lb us' nb' dg dd des dn ls vS kS lm (scs.map fun c => .ref c.a) kM le (scs.map fun c => .ref c.x) kX lp vP kP) (Q : Quad Λ' c.a c.d c.e c.x c.es c.en oe' ox')
    (h1 : (valueAt c.ke nm).isSome = false) (h2 : (valueAt c.kx nm).isSome = false)
    (d1 : oe'.IsDictOf (PySem.strKind prog w) (stored c.ke nm (.ref t1))) (d2 : ox'.IsDictOf (PySem.strKind prog w) (stored c.kx nm (.ref t2)))
    (m1 : (t1, tup [.str (Str.ofString "sig") k1, .int n z1]) ∈ Λ') (m2 : (t2, tup [.str (Str.ofString "sig") k2, .int n z2]) ∈ Λ') :
    LInv prog w L lb dg dd ls lm le (k + 1) Λ' lp oc us' ns' nb' des dn vS kS kM kX vP kP ss (scs.set i { c with oe := oe', ox := ox', ke := stored c.ke nm (.ref t1), kx := stored c.kx nm (.ref t2) }) := by
  have hil : i < scs.length := (List.getElem?_eq_some_iff.mp hc).1
  have C := I.ok i c hc
  have eA : (scs.set i { c with oe := oe', ox := ox', ke := stored c.ke nm (.ref t1), kx := stored c.kx nm (.ref t2) }).map (·.a) = scs.map (·.a) := map_set hc rfl
  have eM : (scs.set i { c with oe := oe', ox := ox', ke := stored c.ke nm (.ref t1), kx := stored c.kx nm (.ref t2) }).map (fun c => Value.ref c.a) = scs.map (fun c => Value.ref c.a) := map_set hc rfl
  have eX : (scs.set i { c with oe := oe', ox := ox', ke := stored c.ke nm (.ref t1), kx := stored c.kx nm (.ref t2) }).map (fun c => Value.ref c.x) = scs.map (fun c => Value.ref c.x) := map_set hc rfl
  exact {
    hd := by rw [eM, eX]; exact H
    hoc := I.hoc
    hi := hi
    hn := hn
    hk := hk
    g1 := I.g1
    g9 := I.g9
    hS := I.hS
    hP := I.hP
    hss := Nat.le_succ_of_le I.hss
    hsc := by rw [List.length_set]; exact Nat.le_succ_of_le I.hsc
    first := by
      obtain ⟨c0, e0, n0⟩ := I.first
      by_cases e : i = 0
      · subst e
        rw [hc] at e0
        cases e0
        exact ⟨_, List.getElem?_set_self hil, n0⟩
      · exact ⟨c0, by rw [List.getElem?_set, if_neg e]; exact e0, n0⟩
    ok := fun j c' hj => by
      rw [eA]
      rcases getset hj hil with ⟨rfl, rfl⟩ | ⟨hne, hj'⟩
      · exact {
          q := Q
          f := C.f
          de := d1
          dx := d2
          le1 := C.le1
          lx1 := C.lx1
          hpa := Nat.le_trans C.hpa (by omega)
          hke := by
            show (stored c.ke nm _).length ≤ _
            rw [stored_new h1, List.length_append]
            have := C.hke
            simp only [List.length_cons, List.length_nil]; omega
          keys := keys_new C.keys h1 h2
          ents := ents_new C.ents (keptT I hc N K) (fun _ _ h => h) h1 h2 (.inl ⟨t1, t2, k1, k2, n, z1, z2, rfl, rfl, m1, m2⟩) }
      · exact (I.ok j c' hj').mono (keptQ I hc K hj' hne) (keptT I hc N K) fun _ _ h => h
    nd := fun j c' hj => by
      rcases getset hj hil with ⟨rfl, rfl⟩ | ⟨hne, hj'⟩
      · exact I.nd j c hc
      · exact I.nd j c' hj'
    nd2 := fun i1 j1 c1 c2 e1 e2 hne => by
      rcases getset e1 hil with ⟨rfl, rfl⟩ | ⟨n1, e1'⟩
      · rcases getset e2 hil with ⟨rfl, rfl⟩ | ⟨n2, e2'⟩
        · exact absurd rfl hne
        · exact I.nd2 i1 j1 c c2 hc e2' hne
      · rcases getset e2 hil with ⟨rfl, rfl⟩ | ⟨n2, e2'⟩
        · exact I.nd2 i1 j1 c1 c e1' hc hne
        · exact I.nd2 i1 j1 c1 c2 e1' e2' hne }
theorem getapp {α : Type} {l : List α} {y z : α} {j : Nat} (h : (l ++ [y])[j]? = some z) : l[j]? = some z ∨ (j = l.length ∧ z = y) := by
  rw [List.getElem?_append] at h
  by_cases hj : j < l.length
  · rw [if_pos hj] at h; exact .inl h
  · rw [if_neg hj] at h
    obtain ⟨h1, h2⟩ := List.getElem?_eq_some_iff.mp h
    simp only [List.length_cons, List.length_nil] at h1
    have : j - l.length = 0 := by omega
    refine .inr ⟨by omega, ?_⟩
    simp [this] at h2
    exact h2.symm
theorem inv_sub0 {t1 a' d' e' x' : Addr} {k1 tp1 tp2 tn ti : Tok} {es' : List DictEntry} {n' : Nat} {nm : Str} {oe' ox' oe2 ox2 : Obj} (I : LInv prog w L lb dg dd ls lm le k Λ lp oc us ns nb des dn vS kS kM kX vP kP ss scs) (hc : scs[i]? = some c) (N : News h₀ L h Λ)
    (K : Kept Λ Λ' [lp, L + 1, lb, dg, dd, ls, lm, le, c.a, c.d, c.e, c.x])
    (hi : IntsAre us' ns') (hn : ns'.length ≤ 80) (hk : ∀ i ∈ ns', 0 ≤ i ∧ i < 37) (hfr : ∀ p ∈ Λ, p.1 < d') (o1 : LtH d' a') (o2 : LtH a' e') (o3 : LtH e' x')
    (H : Heads Λ' L oc lb us' nb' dg dd des dn ls (vS ++ [.str (c.pa ++ Str.ofString "." ++ nm) tp1]) kS' lm ((scs.map fun c => .ref c.a) ++ [.ref a']) kM' le ((scs.map fun c => .ref c.x) ++ [.ref x']) kX' lp (vP ++ [.str (c.pa ++ Str.ofString "." ++ nm) tp2]) kP') (Q : Quad Λ' c.a c.d c.e c.x c.es c.en oe' ox') (Q2 : Quad Λ' a' d' e' x' es' n' oe2 ox2)
    (h1 : (valueAt c.ke nm).isSome = false) (h2 : (valueAt c.kx nm).isSome = false) (hnm : nm.length ≤ 1)
    (d1 : oe'.IsDictOf (PySem.strKind prog w) (stored c.ke nm (.ref t1))) (d2 : ox'.IsDictOf (PySem.strKind prog w) (stored c.kx nm (.int (((scs.map fun c => Value.ref c.a).length + 1 : Nat) - 1) ti)))
    (m1 : (t1, tup [.str (Str.ofString "scope") k1, .ref a']) ∈ Λ') (d3 : oe2.IsDictOf (PySem.strKind prog w) []) (d4 : ox2.IsDictOf (PySem.strKind prog w) []) (y1 : (e' == sysModules) = false) (y2 : (x' == sysModules) = false)
    (f : ScF dg e' es' (c.pa ++ Str.ofString "." ++ nm) tp1 ((vS.length + 1 : Nat) - 1) tn c.snt c.tnt) :
    LInv prog w L lb dg dd ls lm le (k + 1) Λ' lp oc us' ns' nb' des dn (vS ++ [.str (c.pa ++ Str.ofString "." ++ nm) tp1]) kS' kM' kX' (vP ++ [.str (c.pa ++ Str.ofString "." ++ nm) tp2]) kP' (ss ++ [c.pa ++ Str.ofString "." ++ nm])
      ((scs.set i { c with oe := oe', ox := ox', ke := stored c.ke nm (.ref t1), kx := stored c.kx nm (.int (((scs.map fun c => Value.ref c.a).length + 1 : Nat) - 1) ti) }) ++ [{ a := a', d := d', e := e', x := x', es := es', en := n', oe := oe2, ox := ox2, ke := [], kx := [], pa := c.pa ++ Str.ofString "." ++ nm, tpa := tp1, num := ((vS.length + 1 : Nat) - 1), tnum := tn, snt := c.snt, tnt := c.tnt }]) := by
  have hil : i < scs.length := (List.getElem?_eq_some_iff.mp hc).1
  have C := I.ok i c hc
  have eA : (scs.set i { c with oe := oe', ox := ox', ke := stored c.ke nm (.ref t1), kx := stored c.kx nm (.int (((scs.map fun c => Value.ref c.a).length + 1 : Nat) - 1) ti) }).map (·.a) = scs.map (·.a) := map_set hc rfl
  have eM : (scs.set i { c with oe := oe', ox := ox', ke := stored c.ke nm (.ref t1), kx := stored c.kx nm (.int (((scs.map fun c => Value.ref c.a).length + 1 : Nat) - 1) ti) }).map (fun c => Value.ref c.a) = scs.map (fun c => Value.ref c.a) := map_set hc rfl
  have eX : (scs.set i { c with oe := oe', ox := ox', ke := stored c.ke nm (.ref t1), kx := stored c.kx nm (.int (((scs.map fun c => Value.ref c.a).length + 1 : Nat) - 1) ti) }).map (fun c => Value.ref c.x) = scs.map (fun c => Value.ref c.x) := map_set hc rfl
  have o1' : d' < a' := o1
  have o2' : a' < e' := o2
  have o3' : e' < x' := o3
  have low : ∀ (j : Nat) (c' : Sc), scs[j]? = some c' → ∀ p ∈ [lp, L + 1, lb, dg, dd, ls, lm, le, c'.a, c'.d, c'.e, c'.x], p < d' := fun j c' hj p hp => by
    obtain ⟨o, ho, _⟩ := heads_in I hj p hp
    exact hfr _ ho
  have high : ∀ q ∈ [a', d', e', x'], d' ≤ q := fun q hq => by
    simp only [List.mem_cons, List.not_mem_nil, or_false] at hq
    rcases hq with hq | hq | hq | hq
    · rw [hq]; exact Nat.le_of_lt o1
    · exact Nat.le_of_eq hq.symm
    · rw [hq]; exact Nat.le_of_lt (Nat.lt_trans o1 o2)
    · rw [hq]; exact Nat.le_of_lt (Nat.lt_trans (Nat.lt_trans o1 o2) o3)
  have hpre : ∀ (j : Nat) (a : Addr), (scs.map (·.a))[j]? = some a → (scs.map (·.a) ++ [a'])[j]? = some a := fun j a h => by
    rw [List.getElem?_append, if_pos (List.getElem?_eq_some_iff.mp h).1]; exact h
  have eAll : ((scs.set i { c with oe := oe', ox := ox', ke := stored c.ke nm (.ref t1), kx := stored c.kx nm (.int (((scs.map fun c => Value.ref c.a).length + 1 : Nat) - 1) ti) }) ++ [({ a := a', d := d', e := e', x := x', es := es', en := n', oe := oe2, ox := ox2, ke := [], kx := [], pa := c.pa ++ Str.ofString "." ++ nm, tpa := tp1, num := ((vS.length + 1 : Nat) - 1), tnum := tn, snt := c.snt, tnt := c.tnt }: Sc)]).map (fun q => q.a) = scs.map (fun q => q.a) ++ [a'] := by rw [List.map_append, eA]; rfl
  exact {
    hd := by rw [List.map_append, List.map_append, eM, eX]; exact H
    hoc := I.hoc
    hi := hi
    hn := hn
    hk := hk
    g1 := I.g1
    g9 := I.g9
    hS := StrsAre.append' I.hS (.cons _ _ .nil)
    hP := StrsAre.append' I.hP (.cons _ _ .nil)
    hss := by rw [List.length_append]; have := I.hss; simp only [List.length_cons, List.length_nil]; omega
    hsc := by rw [List.length_append, List.length_set]; have := I.hsc; simp only [List.length_cons, List.length_nil]; omega
    first := by
      obtain ⟨c0, e0, n0⟩ := I.first
      by_cases e : i = 0
      · subst e
        rw [hc] at e0
        cases e0
        exact ⟨_, (List.getElem?_append_left (by rw [List.length_set]; exact hil)).trans (List.getElem?_set_self hil), n0⟩
      · exact ⟨c0, by rw [List.getElem?_append_left (by rw [List.length_set]; exact (List.getElem?_eq_some_iff.mp e0).1), List.getElem?_set, if_neg e]; exact e0, n0⟩
    ok := fun j c' hj => by
      rw [eAll]
      rcases getapp hj with hj | ⟨_, rfl⟩
      · rcases getset hj hil with ⟨rfl, rfl⟩ | ⟨hne, hj'⟩
        · exact {
            q := Q
            f := C.f
            de := d1
            dx := d2
            le1 := C.le1
            lx1 := C.lx1
            hpa := Nat.le_trans C.hpa (by omega)
            hke := by
              show (stored c.ke nm _).length ≤ _
              rw [stored_new h1, List.length_append]
              have := C.hke
              simp only [List.length_cons, List.length_nil]; omega
            keys := keys_new C.keys h1 h2
            ents := ents_new C.ents (keptT I hc N K) hpre h1 h2 (.inr ⟨t1, k1, scs.length, a', ti, rfl, by congr 1; rw [List.length_map]; omega, by simp, m1⟩) }
        · exact (I.ok j c' hj').mono (keptQ I hc K hj' hne) (keptT I hc N K) hpre
      · exact {
          q := Q2
          f := f
          de := d3
          dx := d4
          le1 := y1
          lx1 := y2
          hpa := by
            show (c.pa ++ Str.ofString "." ++ nm).length ≤ _
            rw [PySem.Str.length_append, PySem.Str.length_append, dot_len]
            have := C.hpa
            omega
          hke := Nat.zero_le _
          keys := rfl
          ents := fun n v h => by cases h }
    nd := fun j c' hj => by
      rcases getapp hj with hj | ⟨_, rfl⟩
      · rcases getset hj hil with ⟨rfl, rfl⟩ | ⟨hne, hj'⟩
        · exact I.nd j c hc
        · exact I.nd j c' hj'
      · show ([lp, L + 1, lb, dg, dd, ls, lm, le] ++ [a', d', e', x']).Nodup
        have nd : ([lp, L + 1, lb, dg, dd, ls, lm, le] ++ [c.a, c.d, c.e, c.x]).Nodup := I.nd i c hc
        refine List.nodup_append.mpr ⟨(List.nodup_append.mp nd).1, ?_, fun p hp q hq e => ?_⟩
        · simp only [List.nodup_cons, List.mem_cons, List.not_mem_nil, or_false, not_or, not_false_eq_true, List.nodup_nil, and_true]
          exact ⟨⟨Nat.ne_of_gt o1, Nat.ne_of_lt o2, Nat.ne_of_lt (Nat.lt_trans o2 o3)⟩, ⟨Nat.ne_of_lt (Nat.lt_trans o1 o2), Nat.ne_of_lt (Nat.lt_trans (Nat.lt_trans o1 o2) o3)⟩, Nat.ne_of_lt o3⟩
        · have hp' : p ∈ [lp, L + 1, lb, dg, dd, ls, lm, le] ++ [c.a, c.d, c.e, c.x] := List.mem_append_left _ hp
          have z1 := low i c hc p hp'
          have z2 := high q hq
          exact absurd (Nat.lt_of_lt_of_le z1 (e ▸ z2)) (Nat.lt_irrefl _)
    nd2 := fun i1 j1 c1 c2 e1 e2 hne => by
      have lowS : ∀ (j : Nat) (c' : Sc), (scs.set i { c with oe := oe', ox := ox', ke := stored c.ke nm (.ref t1), kx := stored c.kx nm (.int (((scs.map fun c => Value.ref c.a).length + 1 : Nat) - 1) ti) })[j]? = some c' → ∀ p ∈ [c'.a, c'.d, c'.e, c'.x], p < d' := fun j c' hj p hp => by
        rcases getset hj hil with ⟨rfl, rfl⟩ | ⟨hne, hj'⟩
        · exact low j c hc p (List.mem_append_right [lp, L + 1, lb, dg, dd, ls, lm, le] hp)
        · exact low j c' hj' p (List.mem_append_right [lp, L + 1, lb, dg, dd, ls, lm, le] hp)
      rcases getapp e1 with e1 | ⟨l1, rfl⟩
      · rcases getapp e2 with e2 | ⟨l2, rfl⟩
        · rcases getset e1 hil with ⟨rfl, rfl⟩ | ⟨n1, e1'⟩
          · rcases getset e2 hil with ⟨rfl, rfl⟩ | ⟨n2, e2'⟩
            · exact absurd rfl hne
            · exact I.nd2 i1 j1 c c2 hc e2' hne
          · rcases getset e2 hil with ⟨rfl, rfl⟩ | ⟨n2, e2'⟩
            · exact I.nd2 i1 j1 c1 c e1' hc hne
            · exact I.nd2 i1 j1 c1 c2 e1' e2' hne
        · intro p hp hq
          have z1 := lowS i1 c1 e1 p hp
          have z2 := high p hq
          exact absurd (Nat.lt_of_lt_of_le z1 z2) (Nat.lt_irrefl _)
      · rcases getapp e2 with e2 | ⟨l2, rfl⟩
        · intro p hp hq
          have z1 := lowS j1 c2 e2 p hq
          have z2 := high p hp
          exact absurd (Nat.lt_of_lt_of_le z1 z2) (Nat.lt_irrefl _)
        · exact absurd (l1.trans l2.symm) hne }
end
section
variable {prog : Program} {w : World} {h₀ h : Heap} {L lb dg dd ls lm le lp a d e x : Addr} {Λ : List (Addr × Obj)} {oc oe ox : Obj} {us : List Value} {ns : List Int} {nb : Nat} {des es : List DictEntry} {dn en kS kM kX kP : Nat} {top : Str} {t1 t2 tpa tnum : Tok} {snt : Str} {tnt : Tok}
theorem inv_start (m1 : (L + 1, oc) ∈ Λ) (m2 : (lb, listOf us.toArray nb) ∈ Λ) (m3 : (dg, instObj 190 dd) ∈ Λ) (m4 : (dd, dictOf des dn) ∈ Λ) (m5 : (ls, listOf #[.str top t1] kS) ∈ Λ) (m6 : (lm, listOf #[.ref a] kM) ∈ Λ) (m7 : (le, listOf #[.ref x] kX) ∈ Λ) (m8 : (lp, listOf #[.str top t2] kP) ∈ Λ)
    (m9 : (a, instObj 127 d) ∈ Λ) (m10 : (d, dictOf es en) ∈ Λ) (m11 : (e, oe) ∈ Λ) (m12 : (x, ox) ∈ Λ)
    (hoc : oc.data = .cell (some (.ref lb))) (hi : IntsAre us ns) (hn : ns.length ≤ 80) (hk : ∀ i ∈ ns, 0 ≤ i ∧ i < 37)
    (g1 : getL (Str.ofString "scopes") des = some (some (.ref ls))) (g9 : getL (Str.ofString "add_scope") des = some none) (f : ScF dg e es top tpa 0 tnum snt tnt)
    (de : oe.IsDictOf (PySem.strKind prog w) []) (dx : ox.IsDictOf (PySem.strKind prog w) []) (le1 : (e == sysModules) = false) (lx1 : (x == sysModules) = false) (ht : top.length ≤ 3)
    (nd : List.Nodup [lp, L + 1, lb, dg, dd, ls, lm, le, a, d, e, x]) :
    LInv prog w L lb dg dd ls lm le 0 Λ lp oc us ns nb des dn [.str top t1] kS kM kX [.str top t2] kP [top] [⟨a, d, e, x, es, en, oe, ox, [], [], top, tpa, 0, tnum, snt, tnt⟩] where
  hd := ⟨m1, m2, m3, m4, m5, m6, m7, m8⟩
  hoc := hoc
  hi := hi
  hn := hn
  hk := hk
  g1 := g1
  g9 := g9
  hS := .cons _ _ .nil
  hP := .cons _ _ .nil
  hss := Nat.le_refl _
  hsc := Nat.le_refl _
  first := ⟨_, rfl, rfl⟩
  ok := fun j c hj => by
    cases j with
    | succ j => cases hj
    | zero =>
      cases hj
      exact {
        q := ⟨m9, m10, m11, m12⟩
        f := f
        de := de
        dx := dx
        le1 := le1
        lx1 := lx1
        hpa := ht
        hke := Nat.le_refl _
        keys := rfl
        ents := fun nm v hv => by cases hv }
  nd := fun j c hj => by
    cases j with
    | succ j => cases hj
    | zero => cases hj; exact nd
  nd2 := fun i j c c' hi hj hne => by
    cases i with
    | succ i => cases hi
    | zero =>
      cases j with
      | succ j => cases hj
      | zero => exact absurd rfl hne
end
theorem own_lines : True := by
  k_with "k_ne" => ((refine neN ?_; (try dsimp only); with_reducible first | exact Apart.ne (by assumption) | exact Apart.ne' (by assumption) | exact LtH.ne (by assumption) | exact LtH.ne' (by assumption) | exact LtH.via (by assumption) (by assumption) | exact LtH.via' (by assumption) (by assumption) | omega))
  k_with "k_lt" => ((intro l1_q9; ((replace l1_q9 := allLt_of l1_q9; simp only [AllLt, and_true] at l1_q9; (repeat (have hq9 := LtH.of_lt (And.left l1_q9); replace l1_q9 := And.right l1_q9)); (try replace l1_q9 := LtH.of_lt l1_q9)))))
  k_with "k_lt2" => ((intro l1_q9; (replace l1_q9 := LtH.of_lt l1_q9)))
  k_with "k_get" => (with_reducible assumption)
  k_with "k_all" => (with_reducible first | exact all_lt (by assumption) | exact all_via (by assumption) (by assumption))
  trivial
local macro_rules | `(tactic| k_ne) => `(tactic| k_extra "k_ne")
local macro_rules | `(tactic| k_lt $h:ident) => `(tactic| (revert $h; k_extra "k_lt"))
local macro_rules | `(tactic| k_lt2 $h:ident) => `(tactic| (revert $h; k_extra "k_lt2"))
local macro_rules | `(tactic| k_get) => `(tactic| k_extra "k_get")
theorem lines_2 : True := by
  k_with "call builtin:len" => ((k_here; (with_reducible show wpAny _ _ (call (Value.builtin "len") [Value.ref _]) _ _ _); k_dflt (refine' lenA ?N_q9 ?m_q9 ?z_q9 ?_; (case N_q9 => k_asm); (case m_q9 => k_memK); (case z_q9 => ((try simp only [Array.size_push, List.size_toArray]); omega)); k_whole); (try simp only [Array.size_push, List.size_toArray])))
  k_with "subscriptTail" => ((k_here; (with_reducible show wpAny _ _ (subscriptTail _ _ (Value.ref _) (Value.int _ _)) _ _ _); k_dflt (first
      | (refine' item0 ?N_q9 ?m_q9 ?a_q9 ?b_q9 ?x_q9 ?_ ?s_q9; (case N_q9 => k_asm); (case m_q9 => k_memK); (case a_q9 => omega); (case b_q9 => omega); (case x_q9 => first | assumption | (apply push_get; assumption)); (case s_q9 => with_unfolding_all rfl); k_whole; (try dsimp only))
      | (refine' itemLast ?N_q9 ?m_q9 ?_ ?s_q9; (case N_q9 => k_asm); (case m_q9 => k_memK); (case s_q9 => with_unfolding_all rfl); k_whole; (try dsimp only)))))
  k_with "exec Try" => ((k_here; refine wpAny_Try_except ?_))
  k_with "compareOp In str ref" => ((k_here; k_dflt (first
      | (refine' kda_in (knd := PySem.strKind _ _) ?N_q9 ?m_q9 ?d_q9 ?l_q9 (strKind_is _ _ _ _) false ?b_q9 ?_; (case N_q9 => k_asm); (case m_q9 => k_memK); (case d_q9 => k_asm); (case l_q9 => k_asm); (case b_q9 => with_reducible assumption); k_whole)
      | (refine' kda_in (knd := PySem.strKind _ _) ?N_q9 ?m_q9 ?d_q9 ?l_q9 (strKind_is _ _ _ _) true ?b_q9 ?_; (case N_q9 => k_asm); (case m_q9 => k_memK); (case d_q9 => k_asm); (case l_q9 => k_asm); (case b_q9 => with_reducible assumption); k_whole))))
  k_with "setItem ref str" => ((k_here; k_dflt (refine' kda_set (knd := PySem.strKind _ _) ?F_q9 ?N_q9 ?U_q9 ?d_q9 (strKind_is _ _ _ _) ?z_q9 ?_; (case F_q9 => k_asm); (case N_q9 => k_asm); (case U_q9 => k_updF); (case d_q9 => with_reducible assumption); (case z_q9 => rw [sizeLine_eq]; omega)); intro h' o' F' N' hd'; (try dsimp only at N'); (try k_sweep)))
  k_with "subscriptTail" => ((k_here; (with_reducible show wpAny _ _ (subscriptTail _ _ (Value.ref _) (Value.str _ _)) _ _ _); k_dflt (refine' kda_item (knd := PySem.strKind _ _) ?N_q9 ?m_q9 ?d_q9 (strKind_is _ _ _ _) ?v_q9 ?_ ?s_q9 ?g_q9; (case N_q9 => k_asm); (case m_q9 => k_memK); (case d_q9 => k_asm); (case v_q9 => first | with_reducible assumption | exact at_stored (by with_reducible assumption)); (case s_q9 => with_unfolding_all rfl); (case g_q9 => (intro _; with_unfolding_all rfl)); k_whole)))
  k_with "compareOp NotIn" => ((k_here; k_dflt (first
      | (refine' none_in ?N_q9 ?a_q9 ?b_q9 ?u_q9 ?_; (case N_q9 => k_asm); (case a_q9 => k_memK); (case b_q9 => k_memK); (case u_q9 => k_units); k_whole)
      | (refine' pair_in ?N_q9 ?a_q9 ?b_q9 ?c_q9 ?n_q9 ?u_q9 ?_; (case N_q9 => k_asm); (case a_q9 => k_memK); (case b_q9 => k_memK); (case c_q9 => k_memK); (case n_q9 => k_ne); (case u_q9 => k_units); k_whole))))
  k_with "compareOp NotEq ref ref" => ((k_here; k_dflt (first
      | (refine' ne_strRef ?N_q9 ?a_q9 ?b_q9 ?u_q9 ?_; (case N_q9 => k_asm); (case a_q9 => k_memK); (case b_q9 => k_memK); (case u_q9 => k_units); k_whole)
      | (refine' ne_strInt ?N_q9 ?a_q9 ?b_q9 ?u_q9 ?_; (case N_q9 => k_asm); (case a_q9 => k_memK); (case b_q9 => k_memK); (case u_q9 => k_units); k_whole))))
  k_with "binaryOp Add str str" => ((k_here; (refine PyProof.Rows.add_str (hsz := ?hsz_q9) ?_); (case hsz_q9 => (rw [sizeLine_eq]; (try simp only [PySem.Str.length_append, dot_len]); omega)); intro _ _))
  k_with "eval Dict nil nil" => ((k_here; k_dflt (refine' newDict_K ?k1_q9 ?k2_q9 ?k3_q9 ?_; (case k1_q9 => k_asm); (case k2_q9 => k_asm); (case k3_q9 => first | exact Top.nolimit (by assumption) | exact TopRead.nolimit (by k_asm)); k_whole); intro d' h' o' F' N' l1 lo' hs' fs' hi' fi'; (try k_lt l1); (try k_sweep)))
  k_with "call builtin:list.append" => ((k_here; (with_reducible show wpAny _ _ (call (Value.builtin _) [Value.ref _, _]) _ _ _); k_dflt (refine' append_K ?k1_q9 ?k2_q9 ?k3_q9 ?_ ?z_q9; (case k1_q9 => k_asm); (case k2_q9 => k_asm); (case k3_q9 => k_upd); (case z_q9 => ((try simp only [List.size_toArray]); rw [sizeLine_eq]; omega)); k_whole); intro h' F' N'; (try k_sweep)))
  k_with "ite" => (((with_reducible first | refine ite_pos (by assumption) ?_ | refine ite_neg (by assumption) ?_ | refine ite_neg (nt (by assumption)) ?_ | refine ite_neg (nt (bne_self_eq_false _)) ?_ | refine ite_neg (nt (bne_eq_false_iff_eq.mpr (by omega))) ?_); (try dsimp only)))
  k_with "getItem ref str" => ((k_here; k_dflt (refine' getItemD (knd := PySem.strKind _ _) ?N_q9 ?m_q9 ?d_q9 (strKind_is _ _ _ _) ?v_q9 ?_; (case N_q9 => k_asm); (case m_q9 => k_memK); (case d_q9 => k_asm); (case v_q9 => first | with_reducible assumption | exact at_stored (by with_reducible assumption)); k_whole); (try dsimp only)))
  trivial
local macro_rules | `(tactic| k_all) => `(tactic| k_extra "k_all")
theorem lines_3 : True := by
  k_with "call builtin:sorted" => ((k_here; (with_reducible show wpAny _ _ (call (Value.builtin "sorted") [Value.ref _]) _ _ _); k_dflt (refine' sortedO2 ?h_q9 ?F_q9 ?N_q9 ?m_q9 ?d_q9 ?l_q9 ?n_q9 ?k_q9 ?_; (case h_q9 => rfl); (case F_q9 => k_asm); (case N_q9 => k_asm); (case m_q9 => k_memK); (case d_q9 => with_reducible assumption); (case l_q9 => with_reducible assumption); (case n_q9 => with_reducible assumption); (case k_q9 => with_reducible assumption)); intro D' h' tk' vs' c' F' N' hS' l1; (try k_lt l1); (try k_sweep)))
  k_with "compareOp NotEq ref ref" => ((k_here; k_dflt (refine' ne_lists ?N_q9 ?a_q9 ?b_q9 ?x_q9 ?y_q9 ?u_q9 ?_; (case N_q9 => k_asm); (case a_q9 => k_memK); (case b_q9 => k_memK); (case x_q9 => with_reducible assumption); (case y_q9 => with_reducible assumption); (case u_q9 => k_units); k_whole)))
  k_with "call type:list" => ((k_here; (with_reducible show wpAny _ _ (call (Value.type "list") [Value.ref _]) _ _ _); k_dflt (refine' list_copyK ?F_q9 ?N_q9 ?l_q9 ?_ ?z_q9; (case F_q9 => k_asm); (case N_q9 => k_asm); (case l_q9 => exact News.isList (by assumption) (by k_memK)); (case z_q9 => ((try simp only [List.size_toArray, Array.size_push]); rw [sizeLine_eq]; omega)); k_whole); intro D' c' h' F' N' l1; (try k_lt l1); (try k_sweep)))
  trivial
theorem lines_4 : True := by
  k_with "exec Raise some none" => ((k_here; k_dflt (refine' Raise_ownX ?X_q9 ?h_q9 ?_; (case X_q9 => k_asm); (case h_q9 => rfl); k_whole)))
  k_with "call ref" => ((k_here; (with_reducible show wpAny _ _ (call (Value.ref 52) _ _) _ _ _); k_dflt (refine' exc_call ?F_q9 ?X_q9 ?N_q9 ?i_q9 ?f_q9 ?o_q9 ?_ ?l_q9; (case F_q9 => k_asm); (case X_q9 => k_asm); (case N_q9 => k_asm); (case i_q9 => k_is); (case f_q9 => k_is); (case o_q9 => k_is); (case l_q9 => exact Nat.le_of_ble_eq_true rfl); k_whole); intro e' t' h' F' N' l1 l2; (try k_lt l1); (try k_lt2 l2); (try k_sweep); (refine wpAny_call ?_; k_enter)))
  k_with "setAttr ref" => ((k_here; k_dflt (first
      | (refine' setX_new ?F_q9 ?X_q9 ?N_q9 ?n_q9 ?a_q9 ?b_q9 ?c_q9 ?d_q9 ?_; (case F_q9 => k_asm); (case X_q9 => k_asm); (case N_q9 => k_asm); (case n_q9 => k_all); (case a_q9 => k_is); (case b_q9 => k_is); (case c_q9 => k_is); (case d_q9 => k_is); k_whole; intro d' h' oD' tk' F' N' hD' l1; (try k_lt l1); (try k_sweep))
      | (refine' setX_old ?F_q9 ?X_q9 ?N_q9 ?e_q9 ?n_q9 ?a_q9 ?b_q9 ?c_q9 ?d_q9 ?D_q9 ?w_q9 ?z_q9 ?_; (case F_q9 => k_asm); (case X_q9 => k_asm); (case N_q9 => k_asm); (case e_q9 => k_ne); (case n_q9 => k_all); (case a_q9 => k_is); (case b_q9 => k_is); (case c_q9 => k_is); (case d_q9 => k_is); (case D_q9 => with_reducible assumption); (case w_q9 => first | exact Within.cons _ _ Within.nil | exact Within.cons _ _ (Within.cons _ _ Within.nil)); (case z_q9 => exact Nat.le_of_ble_eq_true rfl); intro h' oD' tk' F' N' hD'; (try k_sweep)))))
  k_with "leaving ref" => ((k_here; k_dflt (first
      | (refine' leaveX_first ?K_q9 ?F_q9 ?N_q9 ?n_q9 ?_ ?k_q9; (case K_q9 => assumption); (case F_q9 => k_asm); (case N_q9 => k_asm); (case n_q9 => k_all); (case k_q9 => rfl); k_whole; intro h' R' U'; (try dsimp only at R' U' ⊢))
      | (refine' leaveX_on ?K_q9 ?F_q9 ?R_q9 ?U_q9 ?_; (case R_q9 => assumption); (case K_q9 => assumption); (case U_q9 => assumption); (case F_q9 => assumption); k_whole; intro h' R' U'; (try dsimp only at R' U' ⊢)))))
  k_with "noteFrame ref" => ((k_here; (rename RaisedX _ _ _ _ _ _ => rkX); k_dflt (refine' caughtX ?K_q9 ?F_q9 ?U_q9 ?R_q9 ?X_q9 ?T_q9 ?x_q9 ?o_q9 ?_; (case K_q9 => assumption); (case F_q9 => assumption); (case U_q9 => assumption); (case R_q9 => exact rkX); (case X_q9 => k_asm); (case T_q9 => k_asm); (case x_q9 => k_is); (case o_q9 => k_is); k_whole); intro h' oe' vs' tk' F' N' hc' hd' hx'; (try k_sweep)))
  k_with "getAttr ref" => ((k_here; k_dflt (refine' getX ?F_q9 ?X_q9 ?N_q9 ?m_q9 ?md_q9 ?a_q9 ?b_q9 ?c_q9 ?NS_q9 ?k1_q9 ?k2_q9 ?k3_q9 ?k4_q9 ?k5_q9 ?v_q9 ?h_q9 ?_; (case a_q9 => with_reducible assumption); (case b_q9 => with_reducible assumption); (case c_q9 => with_reducible assumption); (case NS_q9 => with_reducible assumption); (case F_q9 => k_asm); (case X_q9 => k_asm); (case N_q9 => k_asm); (case m_q9 => k_memK); (case md_q9 => k_memK); (case k1_q9 => k_is); (case k2_q9 => k_is); (case k3_q9 => k_is); (case k4_q9 => k_is); (case k5_q9 => k_is); (case v_q9 => with_unfolding_all rfl); (case h_q9 => rfl); k_whole)))
  k_with "RaisableX" => (k_dflt (refine' RaisableX.intro ?X_q9 ?a_q9 ?b_q9 ?c_q9 ?N_q9 ?m_q9 ?_; (case X_q9 => k_in); (case a_q9 => k_is); (case b_q9 => k_is); (case c_q9 => rfl); (case N_q9 => k_asm); (case m_q9 => k_memK)))
  k_with "bind" => ((k_here; (with_reducible show wpAny _ _ (do bindName (envOfC _ _ _ _ _) _ Value.none; unbindBehindTheSuite (envOfC _ _ _ _ _) _ _) _ _ _); k_dflt (refine' nameGoesX ?F_q9 ?N_q9 ?_ ?a_q9 ?b_q9; (case F_q9 => k_asm); (case N_q9 => k_asm); (case a_q9 => rfl); (case b_q9 => rfl); k_whole); intro h' v' F' N'; (try k_sweep)))
  trivial
theorem lines_5 : True := by
  k_with "t_own" => ((intro p hp; repeat (first | exact hp | apply List.mem_cons_of_mem)))
  k_with "t_lt" => (((repeat (refine ltcons (by with_reducible assumption) ?_)); with_reducible assumption))
  k_with "t_base" => ((refine base_of (by assumption) ?_ ?_ ?_ ?_ <;> rfl))
  k_with "t_mem" => ((constructor <;> k_memK))
  trivial
def ClsOk (w : World) (C : Addr) : Prop := findIn (hd.heap_39 w.params) (.ref C) "__setattr__" = some (some (.builtin "object.__setattr__")) ∧ plainOver (hd.heap_39 w.params) C = true ∧ hasDictIn (hd.heap_39 w.params) C = true
theorem cls127 {w : World} : ClsOk w 127 := ⟨by k_is, by k_is, by k_is⟩
theorem cls190 {w : World} : ClsOk w 190 := ⟨by k_is, by k_is, by k_is⟩
theorem upd2 {x C d : Addr} {o o' : Obj} {own : List (Addr × Obj)} (z : x ≠ d) (off : ∀ p ∈ own, p.1 ≠ d) : Upd d o o' ((x, instObj C d) :: (d, o) :: own) ((x, instObj C d) :: (d, o') :: own) := .tail z (.head off)
section
variable {prog : Program} {w : World} {A : Around} {E : Value → Shared → Prop} {Q : Flow → Shared → Prop} {s : Shared} {h₀ : Heap} {L x C d : Addr} {m : Str → Option Value} {es : List DictEntry} {n n' : Nat} {own : List (Addr × Obj)} {env : Env} {self name : Str} {p1 p2 p3 p4 : Pos} {rest : List Stmt} {value : PySem.Expr} {v : Value}
theorem set_val {es' : Tok → List DictEntry} (F : Fr h₀ L s.heap m) (X : (hd.heap_39 w.params).In h₀) (N : News h₀ L s.heap ((x, instObj C d) :: (d, dictOf es n) :: own)) (c : ClsOk w C) (z : x ≠ d) (off : ∀ p ∈ own, p.1 ≠ d)
  (ht : takerIn (hd.heap_39 w.params) C name = some none) (hl : (getL name es).isSome = true) (e : ∀ kt, (putL name (PyData.keyHash w.params name) (.str name kt) v es, putN name es n) = (es' kt, n')) (hz : ∀ kt, (es' kt).length ≤ 1000)
  (hself : ∀ {Q' : Value → Shared → Prop} {s' : Shared}, Fr h₀ L s'.heap m → Q' (.ref x) s' → wpAny (model prog w) A (eval (.Name self p1) env) Q' E s')
  (hv : ∀ {Q' : Value → Shared → Prop}, (∀ tk, Q' v { s with toks := tk }) → wpAny (model prog w) A (eval value env) Q' E s)
  (h : ∀ h' tk kt, Fr h₀ L h' m → News h₀ L h' ((x, instObj C d) :: (d, dictOf (es' kt) n') :: own) → wpAny (model prog w) A (execs rest env) Q E { s with heap := h', toks := tk })
  (hs : swapsWith value (some (.Attribute (.Name self p1) name p2)) p4.line env = pure false := by rfl) :
  wpAny (model prog w) A (execs (.Assign [.Attribute (.Name self p1) name p2] value p4 :: rest) env) Q E s := by
  refine wpAny_execs_cons (plainObj_wpAny_Assign_Attribute (hv fun tk => hself F ?_) hs)
  exact set_dict (s := { s with toks := tk }) F X N (InstAt.of_news N (.head _) (.tail _ (.head _))) rfl c.1 c.2.1 ht c.2.2 hl (e _) (upd2 z off) (hz _) fun h' F' N' => h h' _ _ F' N'
theorem set_list {es' : Tok → Addr → List DictEntry} (F : Fr h₀ L s.heap m) (X : (hd.heap_39 w.params).In h₀) (N : News h₀ L s.heap ((x, instObj C d) :: (d, dictOf es n) :: own)) (c : ClsOk w C) (z : x ≠ d) (off : ∀ p ∈ own, p.1 ≠ d)
  (ht : takerIn (hd.heap_39 w.params) C name = some none) (hl : (getL name es).isSome = true) (e : ∀ kt l, (putL name (PyData.keyHash w.params name) (.str name kt) (.ref l) es, putN name es n) = (es' kt l, n')) (hz : ∀ kt l, (es' kt l).length ≤ 1000)
  (hself : ∀ {Q' : Value → Shared → Prop} {s' : Shared}, Fr h₀ L s'.heap m → Q' (.ref x) s' → wpAny (model prog w) A (eval (.Name self p1) env) Q' E s')
  (h : ∀ h' tk kt l, Fr h₀ L h' m → News h₀ L h' ((x, instObj C d) :: (d, dictOf (es' kt l) n') :: (l, listOf #[] 0) :: own) → (∀ p ∈ (x, instObj C d) :: (d, dictOf es n) :: own, @LT.lt Nat _ p.1 l) → wpAny (model prog w) A (execs rest env) Q E { s with heap := h', toks := tk })
  (hs : swapsWith (.List [] p3) (some (.Attribute (.Name self p1) name p2)) p4.line env = pure false := by rfl) :
  wpAny (model prog w) A (execs (.Assign [.Attribute (.Name self p1) name p2] (.List [] p3) p4 :: rest) env) Q E s := by
  refine wpAny_execs_cons (plainObj_wpAny_Assign_Attribute (PyProof.Rows.List_ (PyProof.Rows.args_nil (newList_K F N ?_))) hs)
  intro l h' F' N' lt
  refine hself F' ?_
  have N2 : News h₀ L h' ((x, instObj C d) :: (d, dictOf es n) :: (l, listOf #[] 0) :: own) := fun p hp => N' p (by
    simp only [List.mem_cons] at hp ⊢
    rcases hp with h | h | h | h <;> simp [h])
  exact set_dict (s := { s with heap := h' }) F' X N2 (InstAt.of_news N2 (.head _) (.tail _ (.head _))) rfl c.1 c.2.1 ht c.2.2 hl (e _ _) (upd2 z fun p hp => (List.mem_cons.mp hp).elim (fun e => e ▸ Nat.ne_of_gt (lt (d, dictOf es n) (.tail _ (.head _)))) (off p)) (hz _ _) fun h2 F2 N3 => h h2 _ _ l F2 N3 lt
theorem drp3 {h₀ h : Heap} {L : Addr} {p q r : Addr × Obj} {l : List (Addr × Obj)} (N : News h₀ L h (p :: q :: r :: l)) : News h₀ L h (p :: q :: l) := fun a ha => N a (by
  rcases List.mem_cons.mp ha with rfl | ha
  · exact .head _
  · rcases List.mem_cons.mp ha with rfl | ha
    · exact .tail _ (.head _)
    · exact .tail _ (.tail _ (.tail _ ha)))
end
theorem set_lines : True := by
  k_with "execs cons" => ((with_reducible show wpAny _ _ (execs (Stmt.Assign [PySem.Expr.Attribute (PySem.Expr.Name _ _) _ _] (PySem.Expr.Constant Const.none _ _) _ :: _) _) _ _ _); k_dflt (refine' set_val ?F_q9 ?X_q9 ?N_q9 ?c_q9 ?z_q9 ?off_q9 ?ht_q9 ?hl_q9 ?e_q9 ?hz_q9 ?hself_q9 ?hv_q9 ?_ ?hs_q9; (case F_q9 => k_asm); (case X_q9 => k_asm); (case N_q9 => k_asm); (case c_q9 => first | exact cls190 | exact cls127); (case z_q9 => k_ne); (case off_q9 => k_all); (case ht_q9 => k_is); (case hv_q9 => (intro Q' h; exact wpAny_Constant_none (h _))); (case hl_q9 => exact rfl); (case e_q9 => (intro kt; k_put)); (case hz_q9 => (intro kt; exact Nat.le_of_ble_eq_true rfl)); (case hself_q9 => (intro Q' s' F h; exact nameX_L F rfl h)); (case hs_q9 => rfl); k_whole); intro h' tk' kt' F' N'; (try k_sweep))
  k_with "execs cons" => ((with_reducible show wpAny _ _ (execs (Stmt.Assign [PySem.Expr.Attribute (PySem.Expr.Name _ _) _ _] (PySem.Expr.Constant (Const.str _) _ _) _ :: _) _) _ _ _); k_dflt (refine' set_val ?F_q9 ?X_q9 ?N_q9 ?c_q9 ?z_q9 ?off_q9 ?ht_q9 ?hl_q9 ?e_q9 ?hz_q9 ?hself_q9 ?hv_q9 ?_ ?hs_q9; (case F_q9 => k_asm); (case X_q9 => k_asm); (case N_q9 => k_asm); (case c_q9 => first | exact cls190 | exact cls127); (case z_q9 => k_ne); (case off_q9 => k_all); (case ht_q9 => k_is); (case hv_q9 => (intro Q' h; exact PySem.Calls.Constant_str (h _))); (case hl_q9 => exact rfl); (case e_q9 => (intro kt; k_put)); (case hz_q9 => (intro kt; exact Nat.le_of_ble_eq_true rfl)); (case hself_q9 => (intro Q' s' F h; exact nameX_L F rfl h)); (case hs_q9 => rfl); k_whole); intro h' tk' kt' F' N'; (try k_sweep))
  k_with "execs cons" => ((with_reducible show wpAny _ _ (execs (Stmt.Assign [PySem.Expr.Attribute (PySem.Expr.Name _ _) _ _] (PySem.Expr.Name _ _) _ :: _) _) _ _ _); k_dflt (refine' set_val ?F_q9 ?X_q9 ?N_q9 ?c_q9 ?z_q9 ?off_q9 ?ht_q9 ?hl_q9 ?e_q9 ?hz_q9 ?hself_q9 ?hv_q9 ?_ ?hs_q9; (case F_q9 => k_asm); (case X_q9 => k_asm); (case N_q9 => k_asm); (case c_q9 => first | exact cls190 | exact cls127); (case z_q9 => k_ne); (case off_q9 => k_all); (case ht_q9 => k_is); (case hv_q9 => (intro Q' h; exact nameX_L (by k_asm) rfl (h _))); (case hl_q9 => exact rfl); (case e_q9 => (intro kt; k_put)); (case hz_q9 => (intro kt; exact Nat.le_of_ble_eq_true rfl)); (case hself_q9 => (intro Q' s' F h; exact nameX_L F rfl h)); (case hs_q9 => rfl); k_whole); intro h' tk' kt' F' N'; (try k_sweep))
  trivial

section
variable {prog : Program} {w : World} {h₀ : Heap} {L fa : Addr} {cd : Value} {mg mb : Str → Option Value} {mean : ExcName → Option Value} {E : Value → Shared → Prop} {Q : Flow → Shared → Prop} {s : Shared} {u : Str → Option Value} {own : List (Addr × Obj)}
  {lb dg dd ls lm le lp a d e x : Addr} {us vS vm vx vP : List Value} {nb kS kM kX kP dn en : Nat} {ns : List Int} {oc oe ox : Obj} {des es : List DictEntry} {ke kx : List (Str × Value)} {nm kd pa : Str} {ab st num : Int} {tnm tkd tab tst tpa tnum : Tok} {snt : Str} {KK : List Str} {tnt : Tok}
theorem turn_sig0 (X : (hd.heap_39 w.params).In h₀) (T : Top hd.view_39 (looseW hd.view_39 [Str.ofString "GateloomError"]) mean mg mb h₀) (B : Below callerA h₀ [] h₀)
  (GL : Glob 0 mg mb (List.map itemOf (recsOf hd.view_39)) (scalarsOf [] ++ constsW hd.view_39) [] (namesW hd.view_39 [Str.ofString "GateloomError"]) h₀)
  (F : Fr h₀ L s.heap (fun y => if y = Str.ofString "refused" then some .none else if y = Str.ofString "kind" then some (.str kd tkd) else if y = Str.ofString "name" then some (.str nm tnm) else if y = Str.ofString "above" then some (.int ab tab) else if y = Str.ofString "step" then some (.int st tst)
    else if y = Str.ofString "design" then some (.ref dg) else if y = Str.ofString "made" then some (.ref lm) else if y = Str.ofString "entered" then some (.ref le) else if y = Str.ofString "paths_x" then some (.ref lp) else u y))
  (N : News h₀ L s.heap ((L + 1, oc) :: (lb, listOf us.toArray nb) :: (dg, instObj 190 dd) :: (dd, dictOf des dn) :: (ls, listOf vS.toArray kS) :: (lm, listOf vm.toArray kM) :: (le, listOf vx.toArray kX) :: (lp, listOf vP.toArray kP) :: (a, instObj 127 d) :: (d, dictOf es en) :: (e, oe) :: (x, ox) :: own))
  (hoff : OwnOff own [L + 1, lb, dg, dd, ls, lm, le, lp, a, d, e, x])
  (q0 : Apart (L + 1) lb) (q1 : Apart (L + 1) dg) (q2 : Apart (L + 1) dd) (q3 : Apart (L + 1) ls) (q4 : Apart (L + 1) lm) (q5 : Apart (L + 1) le) (q6 : Apart (L + 1) lp) (q7 : Apart (L + 1) a) (q8 : Apart (L + 1) d) (q9 : Apart (L + 1) e) (q10 : Apart (L + 1) x) (q11 : Apart lb dg) (q12 : Apart lb dd) (q13 : Apart lb ls) (q14 : Apart lb lm) (q15 : Apart lb le) (q16 : Apart lb lp) (q17 : Apart lb a) (q18 : Apart lb d) (q19 : Apart lb e) (q20 : Apart lb x) (q21 : Apart dg dd) (q22 : Apart dg ls) (q23 : Apart dg lm) (q24 : Apart dg le) (q25 : Apart dg lp) (q26 : Apart dg a) (q27 : Apart dg d) (q28 : Apart dg e) (q29 : Apart dg x) (q30 : Apart dd ls) (q31 : Apart dd lm) (q32 : Apart dd le) (q33 : Apart dd lp) (q34 : Apart dd a) (q35 : Apart dd d) (q36 : Apart dd e) (q37 : Apart dd x) (q38 : Apart ls lm) (q39 : Apart ls le) (q40 : Apart ls lp) (q41 : Apart ls a) (q42 : Apart ls d) (q43 : Apart ls e) (q44 : Apart ls x) (q45 : Apart lm le) (q46 : Apart lm lp) (q47 : Apart lm a) (q48 : Apart lm d) (q49 : Apart lm e) (q50 : Apart lm x) (q51 : Apart le lp) (q52 : Apart le a) (q53 : Apart le d) (q54 : Apart le e) (q55 : Apart le x) (q56 : Apart lp a) (q57 : Apart lp d) (q58 : Apart lp e) (q59 : Apart lp x) (q60 : Apart a d) (q61 : Apart a e) (q62 : Apart a x) (q63 : Apart d e) (q64 : Apart d x) (q65 : Apart e x)
  (hoc : oc.data = .cell (some (.ref lb))) (hi : IntsAre us ns) (hst : 0 ≤ st ∧ st ≤ 10) (hab : 0 ≤ ab ∧ ab < 20) (hva : vm.toArray[ab.toNat]? = some (.ref a)) (hvx : vx.toArray[ab.toNat]? = some (.ref x)) (hvm : vm.length ≤ 20) (hvx2 : vx.length ≤ 20) (hvS : vS.length = vP.length) (hvP : vP.length ≤ 20)
  (g1 : getL (Str.ofString "scopes") des = some (some (.ref ls))) (g2 : getL (Str.ofString "design") es = some (some (.ref dg))) (g3 : getL (Str.ofString "path") es = some (some (.str pa tpa))) (g4 : getL (Str.ofString "entries") es = some (some (.ref e))) (g5 : getL (Str.ofString "number") es = some (some (.int num tnum))) (g6 : getL (Str.ofString "nettype") es = some (some (.str snt tnt))) (g7 : getL (Str.ofString "declare") es = some none) (g8 : getL (Str.ofString "child") es = some none) (g9 : getL (Str.ofString "add_scope") des = some none)
  (de : oe.IsDictOf (strKind prog w) ke) (dx : ox.IsDictOf (strKind prog w) kx) (hpa : pa.length ≤ 40) (hnm : nm.length ≤ 1) (hke : ke.length ≤ 20) (hkx : kx.length ≤ 20) (le1 : (e == sysModules) = false) (lx1 : (x == sysModules) = false) (hKe : ke.map (·.1) = KK) (hKx : kx.map (·.1) = KK)
  (hk : kd = Str.ofString "sig") (he : (valueAt ke nm).isSome = false) (hxx : (valueAt kx nm).isSome = false) (hQ : ∀ (u' : Str → Option Value) (h' : Heap) (tk : Nat) (big : List (Addr × Obj)) (oe' ox' : Obj) (t1 t2 : Addr) (k1 k2 : Tok), Fr h₀ L h' (base dg lm le lp u') → News h₀ L h' big → (∀ p ∈ own, p ∈ big) → Heads big L oc lb us nb dg dd des dn ls vS kS lm vm kM le vx kX lp vP kP → Quad big a d e x es en oe' ox' → oe'.IsDictOf (strKind prog w) (stored ke nm (.ref t1)) → ox'.IsDictOf (strKind prog w) (stored kx nm (.ref t2)) → (t1, tup [.str (Str.ofString "sig") k1, .int st tst]) ∈ big → (t2, tup [.str (Str.ofString "sig") k2, .int st tst]) ∈ big → AllLt t1 ((L + 1, oc) :: (lb, listOf us.toArray nb) :: (dg, instObj 190 dd) :: (dd, dictOf des dn) :: (ls, listOf vS.toArray kS) :: (lm, listOf vm.toArray kM) :: (le, listOf vx.toArray kX) :: (lp, listOf vP.toArray kP) :: (a, instObj 127 d) :: (d, dictOf es en) :: (e, oe) :: (x, ox) :: own) → AllLt t2 ((L + 1, oc) :: (lb, listOf us.toArray nb) :: (dg, instObj 190 dd) :: (dd, dictOf des dn) :: (ls, listOf vS.toArray kS) :: (lm, listOf vm.toArray kM) :: (le, listOf vx.toArray kX) :: (lp, listOf vP.toArray kP) :: (a, instObj 127 d) :: (d, dictOf es en) :: (e, oe) :: (x, ox) :: own) → Q .cont { s with heap := h', toks := tk }) :
  wpAny (model prog w) (callerA.deeper (lawEnv L fa cd)) (execs (mainTurn.drop 4) (lawEnv L fa cd)) Q E s := by
  subst hk
  conv in List.drop 4 mainTurn => whnf
  unfold lawEnv
  conv in (occs := *) lawScope => all_goals whnf
  k_steps
  (show Q .cont _)
  (try simp only [List.push_toArray] at *)
  rename News _ _ _ _ => NN
  refine' hQ _ _ _ _ _ _ _ _ _ _ ?F NN ?O ?H ?D ?d1 ?d2 ?m1 ?m2 ?l1 ?l2
  case F => walk_at "t_base"
  case O => walk_at "t_own"
  case H => walk_at "t_mem"
  case D => walk_at "t_mem"
  case d1 => with_reducible assumption
  case d2 => with_reducible assumption
  case m1 => k_memK
  case m2 => k_memK
  case l1 => walk_at "t_lt"
  case l2 => walk_at "t_lt"
end
theorem fr_top {h₀ h : Heap} {L : Addr} {m : Str → Option Value} {x : Str} {v : Option Value} (F : Fr h₀ L h m) (hx : m x = v) : Fr h₀ L h (fun y => if y = x then v else m y) := by
  have e : (fun y => if y = x then v else m y) = m := by
    funext y
    by_cases h : y = x
    · rw [if_pos h, h, hx]
    · rw [if_neg h]
  rw [e]; exact F
theorem ite_two {c : Prop} [Decidable c] {a b : Prop} (h1 : c → a) (h0 : ¬ c → b) : if c then a else b := by
  by_cases h : c
  · rw [if_pos h]; exact h1 h
  · rw [if_neg h]; exact h0 h
theorem ltm {d : Nat} {b : Addr} {o o' : Obj} {big r : List (Addr × Obj)} (hl : ∀ p ∈ big, p.1 < d) (m : (b, o') ∈ big) (h : AllLt d r) : AllLt d ((b, o) :: r) := ⟨hl (b, o') m, h⟩
def StopR (p : Prop) : Prop := p
theorem stop_atR {p : Prop} (h : StopR p) : p := h
theorem stop_goR {p : Prop} (h : p) : StopR p := h
section
variable {prog : Program} {w : World} {h₀ : Heap} {L fa : Addr} {cd : Value} {mg mb : Str → Option Value} {mean : ExcName → Option Value} {E : Value → Shared → Prop} {Q : Flow → Shared → Prop} {s : Shared} {u : Str → Option Value} {big : List (Addr × Obj)}
  {dg dd ls lm le lp a d e x rt : Addr} {vS vm vx : List Value} {kS kM kX dn en : Nat} {oe ox : Obj} {des es : List DictEntry} {ke kx : List (Str × Value)} {nm kd : Str} {ab st : Int} {tnm tkd tab tst t1 t2 : Tok} {KK : List Str}
theorem turn_refused (X : (hd.heap_39 w.params).In h₀) (T : Top hd.view_39 (looseW hd.view_39 [Str.ofString "GateloomError"]) mean mg mb h₀) (B : Below callerA h₀ [] h₀)
  (GL : Glob 0 mg mb (List.map itemOf (recsOf hd.view_39)) (scalarsOf [] ++ constsW hd.view_39) [] (namesW hd.view_39 [Str.ofString "GateloomError"]) h₀)
  (F : Fr h₀ L s.heap (fun y => if y = Str.ofString "refused" then some (.ref rt) else if y = Str.ofString "kind" then some (.str kd tkd) else if y = Str.ofString "name" then some (.str nm tnm) else if y = Str.ofString "above" then some (.int ab tab) else if y = Str.ofString "step" then some (.int st tst) else if y = Str.ofString "design" then some (.ref dg) else if y = Str.ofString "made" then some (.ref lm) else if y = Str.ofString "entered" then some (.ref le) else if y = Str.ofString "paths_x" then some (.ref lp) else u y))
  (N : News h₀ L s.heap ((rt, tup [.str (Str.ofString "duplicate") t1, .int (40 + st) t2]) :: (dg, instObj 190 dd) :: (dd, dictOf des dn) :: (ls, listOf vS.toArray kS) :: (lm, listOf vm.toArray kM) :: (le, listOf vx.toArray kX) :: (a, instObj 127 d) :: (d, dictOf es en) :: (e, oe) :: (x, ox) :: big))
  (hst : 0 ≤ st ∧ st ≤ 10) (hab : 0 ≤ ab ∧ ab < 20) (hva : vm.toArray[ab.toNat]? = some (.ref a)) (hvx : vx.toArray[ab.toNat]? = some (.ref x)) (hvm : vm.length ≤ 20) (hvx2 : vx.length ≤ 20) (hvS2 : vS.length ≤ 30)
  (g1 : getL (Str.ofString "scopes") des = some (some (.ref ls))) (g4 : getL (Str.ofString "entries") es = some (some (.ref e)))
  (de : oe.IsDictOf (strKind prog w) ke) (dx : ox.IsDictOf (strKind prog w) kx) (hnm : nm.length ≤ 1) (hke : ke.length ≤ 20) (hkx : kx.length ≤ 20) (le1 : (e == sysModules) = false) (lx1 : (x == sysModules) = false) (hKe : ke.map (·.1) = KK) (hKx : kx.map (·.1) = KK)
  (he : (valueAt ke nm).isSome = true) (hxx : (valueAt kx nm).isSome = true)
  (hQ0 : ¬ (kd != Str.ofString "sig") = true → ∀ (u' : Str → Option Value) (h' : Heap) (tk : Nat) (Λ' : List (Addr × Obj)), Fr h₀ L h' (base dg lm le lp u') → News h₀ L h' Λ' → (∀ p ∈ big, p ∈ Λ') → Q .cont { s with heap := h', toks := tk })
  (hQ1 : (kd != Str.ofString "sig") = true → ∀ (u' : Str → Option Value) (h' : Heap) (tk : Nat) (Λ' : List (Addr × Obj)) (lp' : Addr) (k' : Nat), Fr h₀ L h' (base dg lm le lp' u') → News h₀ L h' Λ' → (lp', listOf vS.toArray k') ∈ Λ' → (∀ p ∈ big, p ∈ Λ') → AllLt lp' big → Q .cont { s with heap := h', toks := tk }) :
  wpAny (model prog w) (callerA.deeper (lawEnv L fa cd)) (execs (mainTurn.drop 5) (lawEnv L fa cd)) Q E s := by
  k_with "ite" => ((with_reducible show ite ((_ != Str.ofString "sig") = true) _ _); refine ite_two ?_ ?_; all_goals intro hk9)
  conv in List.drop 5 mainTurn => whnf
  unfold lawEnv
  conv in (occs := *) lawScope => all_goals whnf
  k_steps
  · (show Q .cont _)
    rename News _ _ _ _ => NN
    refine' hQ1 (by with_reducible assumption) _ _ _ _ _ _ ?F NN ?m ?O ?l
    case F => walk_at "t_base"
    case m => k_memK
    case O => walk_at "t_own"
    case l => with_reducible assumption
  · (show Q .cont _)
    rename News _ _ _ _ => NN
    refine' hQ0 (by with_reducible assumption) _ _ _ _ ?F NN ?O
    case F => walk_at "t_base"
    case O => walk_at "t_own"
end
section
variable {prog : Program} {w : World} {h₀ : Heap} {L fa : Addr} {cd : Value} {mg mb : Str → Option Value} {mean : ExcName → Option Value} {E : Value → Shared → Prop} {Q : Flow → Shared → Prop} {s : Shared} {u : Str → Option Value} {big : List (Addr × Obj)}
  {dg dd ls lm le lp a d e x rt : Addr} {vS vm vx : List Value} {kS kM kX dn en : Nat} {oe ox : Obj} {des es : List DictEntry} {ke kx : List (Str × Value)} {nm kd : Str} {ab st : Int} {tnm tkd tab tst t1 t2 : Tok} {KK : List Str}
  {m : Str → Option Value} {body : List Stmt} {sc : Scope}
theorem refused_U (hb : body = mainTurn.drop 5) (hs : sc = lawScope) (X : (hd.heap_39 w.params).In h₀) (T : Top hd.view_39 (looseW hd.view_39 [Str.ofString "GateloomError"]) mean mg mb h₀) (B : Below callerA h₀ [] h₀)
  (GL : Glob 0 mg mb (List.map itemOf (recsOf hd.view_39)) (scalarsOf [] ++ constsW hd.view_39) [] (namesW hd.view_39 [Str.ofString "GateloomError"]) h₀)
  (F : Fr h₀ L s.heap (m))
  (N : News h₀ L s.heap ((rt, tup [.str (Str.ofString "duplicate") t1, .int (40 + st) t2]) :: (dg, instObj 190 dd) :: (dd, dictOf des dn) :: (ls, listOf vS.toArray kS) :: (lm, listOf vm.toArray kM) :: (le, listOf vx.toArray kX) :: (a, instObj 127 d) :: (d, dictOf es en) :: (e, oe) :: (x, ox) :: big))
  (hst : 0 ≤ st ∧ st ≤ 10) (hab : 0 ≤ ab ∧ ab < 20) (hva : vm.toArray[ab.toNat]? = some (.ref a)) (hvx : vx.toArray[ab.toNat]? = some (.ref x)) (hvm : vm.length ≤ 20) (hvx2 : vx.length ≤ 20) (hvS2 : vS.length ≤ 30)
  (g1 : getL (Str.ofString "scopes") des = some (some (.ref ls))) (g4 : getL (Str.ofString "entries") es = some (some (.ref e)))
  (de : oe.IsDictOf (strKind prog w) ke) (dx : ox.IsDictOf (strKind prog w) kx) (hnm : nm.length ≤ 1) (hke : ke.length ≤ 20) (hkx : kx.length ≤ 20) (le1 : (e == sysModules) = false) (lx1 : (x == sysModules) = false) (hKe : ke.map (·.1) = KK) (hKx : kx.map (·.1) = KK)
  (he : (valueAt ke nm).isSome = true) (hxx : (valueAt kx nm).isSome = true)
  (hQ0 : ¬ (kd != Str.ofString "sig") = true → ∀ (u' : Str → Option Value) (h' : Heap) (tk : Nat) (Λ' : List (Addr × Obj)), Fr h₀ L h' (base dg lm le lp u') → News h₀ L h' Λ' → (∀ p ∈ big, p ∈ Λ') → Q .cont { s with heap := h', toks := tk })
  (hQ1 : (kd != Str.ofString "sig") = true → ∀ (u' : Str → Option Value) (h' : Heap) (tk : Nat) (Λ' : List (Addr × Obj)) (lp' : Addr) (k' : Nat), Fr h₀ L h' (base dg lm le lp' u') → News h₀ L h' Λ' → (lp', listOf vS.toArray k') ∈ Λ' → (∀ p ∈ big, p ∈ Λ') → AllLt lp' big → Q .cont { s with heap := h', toks := tk })
  (f1 : m (Str.ofString "paths_x") = some (.ref lp)) (f2 : m (Str.ofString "entered") = some (.ref le)) (f3 : m (Str.ofString "made") = some (.ref lm)) (f4 : m (Str.ofString "design") = some (.ref dg)) (f5 : m (Str.ofString "step") = some (.int st tst)) (f6 : m (Str.ofString "above") = some (.int ab tab)) (f7 : m (Str.ofString "name") = some (.str nm tnm)) (f8 : m (Str.ofString "kind") = some (.str kd tkd)) (f9 : m (Str.ofString "refused") = some (.ref rt)) :
  wpAny (model prog w) (callerA.deeper (envOfC (Str.ofString "law") sc L fa cd)) (execs body (envOfC (Str.ofString "law") sc L fa cd)) Q E s := by
  subst hb hs
  exact turn_refused X T B GL (fr_top (fr_top (fr_top (fr_top (fr_top (fr_top (fr_top (fr_top (fr_top F f1) f2) f3) f4) f5) f6) f7) f8) f9) N hst hab hva hvx hvm hvx2 hvS2 g1 g4 de dx hnm hke hkx le1 lx1 hKe hKx he hxx hQ0 hQ1
end
theorem ref_line : True := by
  k_with "execs cons" => ((with_reducible show wpAny _ _ (execs [Stmt.If _ _ _ _, _, _, _, _, _, _, _] _) _ _ _); (have h9 : (valueAt ke nm).isSome = true := by with_reducible assumption); clear h9; (try (with_reducible refine gen_toks ?_; intro tk9)); (try dsimp only); refine stop_atR ?_)
  trivial

section
variable {prog : Program} {w : World} {h₀ : Heap} {L fa : Addr} {cd : Value} {mg mb : Str → Option Value} {mean : ExcName → Option Value} {E : Value → Shared → Prop} {Q : Flow → Shared → Prop} {s : Shared} {u : Str → Option Value} {own : List (Addr × Obj)}
  {lb dg dd ls lm le lp a d e x : Addr} {us vS vm vx vP : List Value} {nb kS kM kX kP dn en : Nat} {ns : List Int} {oc oe ox : Obj} {des es : List DictEntry} {ke kx : List (Str × Value)} {nm kd pa : Str} {ab st num : Int} {tnm tkd tab tst tpa tnum : Tok} {snt : Str} {KK : List Str} {tnt : Tok}
theorem turn_sig1 (X : (hd.heap_39 w.params).In h₀) (T : Top hd.view_39 (looseW hd.view_39 [Str.ofString "GateloomError"]) mean mg mb h₀) (B : Below callerA h₀ [] h₀)
  (GL : Glob 0 mg mb (List.map itemOf (recsOf hd.view_39)) (scalarsOf [] ++ constsW hd.view_39) [] (namesW hd.view_39 [Str.ofString "GateloomError"]) h₀)
  (F : Fr h₀ L s.heap (fun y => if y = Str.ofString "refused" then some .none else if y = Str.ofString "kind" then some (.str kd tkd) else if y = Str.ofString "name" then some (.str nm tnm) else if y = Str.ofString "above" then some (.int ab tab) else if y = Str.ofString "step" then some (.int st tst)
    else if y = Str.ofString "design" then some (.ref dg) else if y = Str.ofString "made" then some (.ref lm) else if y = Str.ofString "entered" then some (.ref le) else if y = Str.ofString "paths_x" then some (.ref lp) else u y))
  (N : News h₀ L s.heap ((L + 1, oc) :: (lb, listOf us.toArray nb) :: (dg, instObj 190 dd) :: (dd, dictOf des dn) :: (ls, listOf vS.toArray kS) :: (lm, listOf vm.toArray kM) :: (le, listOf vx.toArray kX) :: (lp, listOf vP.toArray kP) :: (a, instObj 127 d) :: (d, dictOf es en) :: (e, oe) :: (x, ox) :: own))
  (hoff : OwnOff own [L + 1, lb, dg, dd, ls, lm, le, lp, a, d, e, x])
  (q0 : Apart (L + 1) lb) (q1 : Apart (L + 1) dg) (q2 : Apart (L + 1) dd) (q3 : Apart (L + 1) ls) (q4 : Apart (L + 1) lm) (q5 : Apart (L + 1) le) (q6 : Apart (L + 1) lp) (q7 : Apart (L + 1) a) (q8 : Apart (L + 1) d) (q9 : Apart (L + 1) e) (q10 : Apart (L + 1) x) (q11 : Apart lb dg) (q12 : Apart lb dd) (q13 : Apart lb ls) (q14 : Apart lb lm) (q15 : Apart lb le) (q16 : Apart lb lp) (q17 : Apart lb a) (q18 : Apart lb d) (q19 : Apart lb e) (q20 : Apart lb x) (q21 : Apart dg dd) (q22 : Apart dg ls) (q23 : Apart dg lm) (q24 : Apart dg le) (q25 : Apart dg lp) (q26 : Apart dg a) (q27 : Apart dg d) (q28 : Apart dg e) (q29 : Apart dg x) (q30 : Apart dd ls) (q31 : Apart dd lm) (q32 : Apart dd le) (q33 : Apart dd lp) (q34 : Apart dd a) (q35 : Apart dd d) (q36 : Apart dd e) (q37 : Apart dd x) (q38 : Apart ls lm) (q39 : Apart ls le) (q40 : Apart ls lp) (q41 : Apart ls a) (q42 : Apart ls d) (q43 : Apart ls e) (q44 : Apart ls x) (q45 : Apart lm le) (q46 : Apart lm lp) (q47 : Apart lm a) (q48 : Apart lm d) (q49 : Apart lm e) (q50 : Apart lm x) (q51 : Apart le lp) (q52 : Apart le a) (q53 : Apart le d) (q54 : Apart le e) (q55 : Apart le x) (q56 : Apart lp a) (q57 : Apart lp d) (q58 : Apart lp e) (q59 : Apart lp x) (q60 : Apart a d) (q61 : Apart a e) (q62 : Apart a x) (q63 : Apart d e) (q64 : Apart d x) (q65 : Apart e x)
  (hoc : oc.data = .cell (some (.ref lb))) (hi : IntsAre us ns) (hst : 0 ≤ st ∧ st ≤ 10) (hab : 0 ≤ ab ∧ ab < 20) (hva : vm.toArray[ab.toNat]? = some (.ref a)) (hvx : vx.toArray[ab.toNat]? = some (.ref x)) (hvm : vm.length ≤ 20) (hvx2 : vx.length ≤ 20) (hvS : vS.length = vP.length) (hvP : vP.length ≤ 20)
  (g1 : getL (Str.ofString "scopes") des = some (some (.ref ls))) (g2 : getL (Str.ofString "design") es = some (some (.ref dg))) (g3 : getL (Str.ofString "path") es = some (some (.str pa tpa))) (g4 : getL (Str.ofString "entries") es = some (some (.ref e))) (g5 : getL (Str.ofString "number") es = some (some (.int num tnum))) (g6 : getL (Str.ofString "nettype") es = some (some (.str snt tnt))) (g7 : getL (Str.ofString "declare") es = some none) (g8 : getL (Str.ofString "child") es = some none) (g9 : getL (Str.ofString "add_scope") des = some none)
  (de : oe.IsDictOf (strKind prog w) ke) (dx : ox.IsDictOf (strKind prog w) kx) (hpa : pa.length ≤ 40) (hnm : nm.length ≤ 1) (hke : ke.length ≤ 20) (hkx : kx.length ≤ 20) (le1 : (e == sysModules) = false) (lx1 : (x == sysModules) = false) (hKe : ke.map (·.1) = KK) (hKx : kx.map (·.1) = KK)
  (hk : kd = Str.ofString "sig") (he : (valueAt ke nm).isSome = true) (hxx : (valueAt kx nm).isSome = true) (hQ : ∀ (u' : Str → Option Value) (h' : Heap) (tk : Nat) (big : List (Addr × Obj)), Fr h₀ L h' (base dg lm le lp u') → News h₀ L h' big → (∀ p ∈ own, p ∈ big) → Heads big L oc lb us nb dg dd des dn ls vS kS lm vm kM le vx kX lp vP kP → Quad big a d e x es en oe ox → Q .cont { s with heap := h', toks := tk }) :
  wpAny (model prog w) (callerA.deeper (lawEnv L fa cd)) (execs (mainTurn.drop 4) (lawEnv L fa cd)) Q E s := by
  subst hk
  conv in List.drop 4 mainTurn => whnf
  unfold lawEnv
  conv in (occs := *) lawScope => all_goals whnf
  k_steps
  refine stop_goR ?_
  simp only [List.push_toArray] at *
  rename Fr _ _ _ _ => FF
  rename News _ _ _ _ => NN
  refine' refused_U ?hb ?hs X T B GL FF (nc NN ?n1 (nc NN ?n2 (nc NN ?n3 (nc NN ?n4 (nc NN ?n5 (nc NN ?n6 (nc NN ?n7 (nc NN ?n8 (nc NN ?n9 (nc NN ?n10 NN)))))))))) hst hab hva hvx hvm hvx2 ?hv g1 g4 de dx hnm hke hkx le1 lx1 hKe hKx (by with_reducible assumption) (by with_reducible assumption) ?Q0 ?Q1 ?f1 ?f2 ?f3 ?f4 ?f5 ?f6 ?f7 ?f8 ?f9
  case hb => kernel_rfl
  case hs => kernel_rfl
  case f9 => rfl
  case f8 => rfl
  case f7 => rfl
  case f6 => rfl
  case f5 => rfl
  case f4 => rfl
  case f3 => rfl
  case f2 => rfl
  case f1 => rfl
  case n1 => k_memK
  case n2 => k_memK
  case n3 => k_memK
  case n4 => k_memK
  case n5 => k_memK
  case n6 => k_memK
  case n7 => k_memK
  case n8 => k_memK
  case n9 => k_memK
  case n10 => k_memK
  case hv => ((try simp only [List.length_append, List.length_cons, List.length_nil]); omega)
  case Q1 => exact fun h => absurd h (by decide)
  case Q0 =>
    intro _ u' h' tk' Λ' F' N' hsub
    refine' hQ _ _ _ _ F' N' ?O ?H ?D
    case O => (intro p hp; refine hsub p ?_; (repeat (first | exact hp | apply List.mem_cons_of_mem)))
    case H => constructor <;> (refine hsub _ ?_; k_memK)
    case D => constructor <;> (refine hsub _ ?_; k_memK)
end

section
variable {prog : Program} {w : World} {h₀ : Heap} {L fa : Addr} {cd : Value} {mg mb : Str → Option Value} {mean : ExcName → Option Value} {E : Value → Shared → Prop} {Q : Flow → Shared → Prop} {s : Shared} {u : Str → Option Value} {own : List (Addr × Obj)}
  {lb dg dd ls lm le lp a d e x : Addr} {us vS vm vx vP : List Value} {nb kS kM kX kP dn en : Nat} {ns : List Int} {oc oe ox : Obj} {des es : List DictEntry} {ke kx : List (Str × Value)} {nm kd pa : Str} {ab st num : Int} {tnm tkd tab tst tpa tnum : Tok} {snt : Str} {KK : List Str} {tnt : Tok}
theorem turn_sub (X : (hd.heap_39 w.params).In h₀) (T : Top hd.view_39 (looseW hd.view_39 [Str.ofString "GateloomError"]) mean mg mb h₀) (B : Below callerA h₀ [] h₀)
  (GL : Glob 0 mg mb (List.map itemOf (recsOf hd.view_39)) (scalarsOf [] ++ constsW hd.view_39) [] (namesW hd.view_39 [Str.ofString "GateloomError"]) h₀)
  (F : Fr h₀ L s.heap (fun y => if y = Str.ofString "refused" then some .none else if y = Str.ofString "kind" then some (.str kd tkd) else if y = Str.ofString "name" then some (.str nm tnm) else if y = Str.ofString "above" then some (.int ab tab) else if y = Str.ofString "step" then some (.int st tst)
    else if y = Str.ofString "design" then some (.ref dg) else if y = Str.ofString "made" then some (.ref lm) else if y = Str.ofString "entered" then some (.ref le) else if y = Str.ofString "paths_x" then some (.ref lp) else u y))
  (N : News h₀ L s.heap ((L + 1, oc) :: (lb, listOf us.toArray nb) :: (dg, instObj 190 dd) :: (dd, dictOf des dn) :: (ls, listOf vS.toArray kS) :: (lm, listOf vm.toArray kM) :: (le, listOf vx.toArray kX) :: (lp, listOf vP.toArray kP) :: (a, instObj 127 d) :: (d, dictOf es en) :: (e, oe) :: (x, ox) :: own))
  (hoff : OwnOff own [L + 1, lb, dg, dd, ls, lm, le, lp, a, d, e, x])
  (q0 : Apart (L + 1) lb) (q1 : Apart (L + 1) dg) (q2 : Apart (L + 1) dd) (q3 : Apart (L + 1) ls) (q4 : Apart (L + 1) lm) (q5 : Apart (L + 1) le) (q6 : Apart (L + 1) lp) (q7 : Apart (L + 1) a) (q8 : Apart (L + 1) d) (q9 : Apart (L + 1) e) (q10 : Apart (L + 1) x) (q11 : Apart lb dg) (q12 : Apart lb dd) (q13 : Apart lb ls) (q14 : Apart lb lm) (q15 : Apart lb le) (q16 : Apart lb lp) (q17 : Apart lb a) (q18 : Apart lb d) (q19 : Apart lb e) (q20 : Apart lb x) (q21 : Apart dg dd) (q22 : Apart dg ls) (q23 : Apart dg lm) (q24 : Apart dg le) (q25 : Apart dg lp) (q26 : Apart dg a) (q27 : Apart dg d) (q28 : Apart dg e) (q29 : Apart dg x) (q30 : Apart dd ls) (q31 : Apart dd lm) (q32 : Apart dd le) (q33 : Apart dd lp) (q34 : Apart dd a) (q35 : Apart dd d) (q36 : Apart dd e) (q37 : Apart dd x) (q38 : Apart ls lm) (q39 : Apart ls le) (q40 : Apart ls lp) (q41 : Apart ls a) (q42 : Apart ls d) (q43 : Apart ls e) (q44 : Apart ls x) (q45 : Apart lm le) (q46 : Apart lm lp) (q47 : Apart lm a) (q48 : Apart lm d) (q49 : Apart lm e) (q50 : Apart lm x) (q51 : Apart le lp) (q52 : Apart le a) (q53 : Apart le d) (q54 : Apart le e) (q55 : Apart le x) (q56 : Apart lp a) (q57 : Apart lp d) (q58 : Apart lp e) (q59 : Apart lp x) (q60 : Apart a d) (q61 : Apart a e) (q62 : Apart a x) (q63 : Apart d e) (q64 : Apart d x) (q65 : Apart e x)
  (hoc : oc.data = .cell (some (.ref lb))) (hi : IntsAre us ns) (hst : 0 ≤ st ∧ st ≤ 10) (hab : 0 ≤ ab ∧ ab < 20) (hva : vm.toArray[ab.toNat]? = some (.ref a)) (hvx : vx.toArray[ab.toNat]? = some (.ref x)) (hvm : vm.length ≤ 20) (hvx2 : vx.length ≤ 20) (hvS : vS.length = vP.length) (hvP : vP.length ≤ 20)
  (g1 : getL (Str.ofString "scopes") des = some (some (.ref ls))) (g2 : getL (Str.ofString "design") es = some (some (.ref dg))) (g3 : getL (Str.ofString "path") es = some (some (.str pa tpa))) (g4 : getL (Str.ofString "entries") es = some (some (.ref e))) (g5 : getL (Str.ofString "number") es = some (some (.int num tnum))) (g6 : getL (Str.ofString "nettype") es = some (some (.str snt tnt))) (g7 : getL (Str.ofString "declare") es = some none) (g8 : getL (Str.ofString "child") es = some none) (g9 : getL (Str.ofString "add_scope") des = some none)
  (de : oe.IsDictOf (strKind prog w) ke) (dx : ox.IsDictOf (strKind prog w) kx) (hpa : pa.length ≤ 40) (hnm : nm.length ≤ 1) (hke : ke.length ≤ 20) (hkx : kx.length ≤ 20) (le1 : (e == sysModules) = false) (lx1 : (x == sysModules) = false) (hKe : ke.map (·.1) = KK) (hKx : kx.map (·.1) = KK)
  (hk : (kd == Str.ofString "sig") = false) (hk2 : (kd != Str.ofString "sig") = true) (hsame : (valueAt kx nm).isSome = (valueAt ke nm).isSome)
  (hQ0 : (valueAt ke nm).isSome = false → ∀ (u' : Str → Option Value) (h' : Heap) (tk : Nat) (big : List (Addr × Obj)) (oe' ox' oe2 ox2 : Obj) (t1 a' d' e' x' : Addr) (k1 tp1 tp2 tn ti : Tok) (es' : List DictEntry) (n' kS' kM' kX' kP' : Nat), Fr h₀ L h' (base dg lm le lp u') → News h₀ L h' big → (∀ p ∈ own, p ∈ big) → Heads big L oc lb us nb dg dd des dn ls (vS ++ [.str (pa ++ Str.ofString "." ++ nm) tp1]) kS' lm (vm ++ [.ref a']) kM' le (vx ++ [.ref x']) kX' lp (vP ++ [.str (pa ++ Str.ofString "." ++ nm) tp2]) kP' → Quad big a d e x es en oe' ox' → oe'.IsDictOf (strKind prog w) (stored ke nm (.ref t1)) → ox'.IsDictOf (strKind prog w) (stored kx nm (.int ((vm.length + 1 : Nat) - 1) ti)) → (t1, tup [.str (Str.ofString "scope") k1, .ref a']) ∈ big → Quad big a' d' e' x' es' n' oe2 ox2 → oe2.IsDictOf (strKind prog w) [] → ox2.IsDictOf (strKind prog w) [] → (e' == sysModules) = false → (x' == sysModules) = false → ScF dg e' es' (pa ++ Str.ofString "." ++ nm) tp1 ((vS.length + 1 : Nat) - 1) tn snt tnt → AllLt t1 ((L + 1, oc) :: (lb, listOf us.toArray nb) :: (dg, instObj 190 dd) :: (dd, dictOf des dn) :: (ls, listOf vS.toArray kS) :: (lm, listOf vm.toArray kM) :: (le, listOf vx.toArray kX) :: (lp, listOf vP.toArray kP) :: (a, instObj 127 d) :: (d, dictOf es en) :: (e, oe) :: (x, ox) :: own) → AllLt d' ((L + 1, oc) :: (lb, listOf us.toArray nb) :: (dg, instObj 190 dd) :: (dd, dictOf des dn) :: (ls, listOf vS.toArray kS) :: (lm, listOf vm.toArray kM) :: (le, listOf vx.toArray kX) :: (lp, listOf vP.toArray kP) :: (a, instObj 127 d) :: (d, dictOf es en) :: (e, oe) :: (x, ox) :: own) → LtH d' a' → LtH a' e' → LtH e' x' → Q .next { s with heap := h', toks := tk })
  (hQ1 : (valueAt ke nm).isSome = true → ∀ (u' : Str → Option Value) (h' : Heap) (tk : Nat) (big : List (Addr × Obj)) (lp' : Addr) (tp1 : Tok) (kS' kP' : Nat), Fr h₀ L h' (base dg lm le lp' u') → News h₀ L h' big → (∀ p ∈ own, p ∈ big) → Heads big L oc lb us nb dg dd des dn ls (vS ++ [.str (pa ++ Str.ofString "." ++ nm) tp1]) kS' lm vm kM le vx kX lp' (vS ++ [.str (pa ++ Str.ofString "." ++ nm) tp1]) kP' → AllLt lp' ((L + 1, oc) :: (lb, listOf us.toArray nb) :: (dg, instObj 190 dd) :: (dd, dictOf des dn) :: (ls, listOf vS.toArray kS) :: (lm, listOf vm.toArray kM) :: (le, listOf vx.toArray kX) :: (lp, listOf vP.toArray kP) :: (a, instObj 127 d) :: (d, dictOf es en) :: (e, oe) :: (x, ox) :: own) → Quad big a d e x es en oe ox → Q .cont { s with heap := h', toks := tk }) :
  wpAny (model prog w) (callerA.deeper (lawEnv L fa cd)) (execs (mainTurn.drop 4) (lawEnv L fa cd)) Q E s := by
  k_with "compareOp In str ref" => (k_here; (fail_if_success (have h9 : (valueAt ke nm).isSome = false := by with_reducible assumption)); (fail_if_success (have h9 : (valueAt ke nm).isSome = true := by with_reducible assumption)); k_dflt (cases he : (valueAt ke nm).isSome); all_goals (have hxx := hsame.trans he))
  conv in List.drop 4 mainTurn => whnf
  unfold lawEnv
  conv in (occs := *) lawScope => all_goals whnf
  k_steps
  · skip
    (show Q .next _)
    simp only [List.push_toArray] at *
    rename News _ _ _ _ => NN
    refine' hQ0 (by with_reducible assumption) _ _ _ _ _ _ _ _ _ _ _ _ _ _ _ _ _ _ _ _ _ _ _ _ ?F NN ?O ?H ?D ?d1 ?d2 ?m1 (Quad.mk ?qa ?qd ?qe ?qx) ?d3 ?d4 ?s1 ?s2 ?f ?l1 ?l2 ?l3 ?l4 ?l5
    case F => walk_at "t_base"
    case O => walk_at "t_own"
    case H => walk_at "t_mem"
    case D => walk_at "t_mem"
    case d1 => with_reducible assumption
    case d2 => with_reducible assumption
    case m1 => k_memK
    case qa => k_memK
    case qd => k_memK
    case f => constructor <;> rfl
    case qe => k_memK
    case qx => k_memK
    case d3 => with_reducible assumption
    case d4 => with_reducible assumption
    case s1 => with_reducible assumption
    case s2 => with_reducible assumption
    case l1 => walk_at "t_lt"
    case l2 => walk_at "t_lt"
    all_goals with_reducible assumption
  · skip
    refine stop_goR ?_
    simp only [List.push_toArray] at *
    rename Fr _ _ _ _ => FF
    rename News _ _ _ _ => NN
    refine' refused_U ?hb ?hs X T B GL FF (nc NN ?n1 (nc NN ?n2 (nc NN ?n3 (nc NN ?n4 (nc NN ?n5 (nc NN ?n6 (nc NN ?n7 (nc NN ?n8 (nc NN ?n9 (nc NN ?n10 NN)))))))))) hst hab hva hvx hvm hvx2 ?hv g1 g4 de dx hnm hke hkx le1 lx1 hKe hKx (by with_reducible assumption) (by with_reducible assumption) ?Q0 ?Q1 ?f1 ?f2 ?f3 ?f4 ?f5 ?f6 ?f7 ?f8 ?f9
    case hb => kernel_rfl
    case hs => kernel_rfl
    case f9 => rfl
    case f8 => rfl
    case f7 => rfl
    case f6 => rfl
    case f5 => rfl
    case f4 => rfl
    case f3 => rfl
    case f2 => rfl
    case f1 => rfl
    case n1 => k_memK
    case n2 => k_memK
    case n3 => k_memK
    case n4 => k_memK
    case n5 => k_memK
    case n6 => k_memK
    case n7 => k_memK
    case n8 => k_memK
    case n9 => k_memK
    case n10 => k_memK
    case hv => ((try simp only [List.length_append, List.length_cons, List.length_nil]); omega)
    case Q0 => exact fun h => absurd hk2 h
    case Q1 =>
      intro _ u' h' tk' Λ' lp' k' F' N' hm hsub hall
      have hl := kst_ltOf hall
      refine' hQ1 (by with_reducible assumption) _ _ _ _ _ _ _ _ F' N' ?O ?H ?l1 ?D
      case O => (intro p hp; refine hsub p ?_; (repeat (first | exact hp | apply List.mem_cons_of_mem)))
      case H => constructor <;> first | exact hm | (refine hsub _ ?_; k_memK)
      case l1 => ((repeat (refine' ltm hl ?m9 ?_; (case m9 => k_memK))); exact allLt_of (fun p hp => hl p (by (repeat (first | exact hp | apply List.mem_cons_of_mem)))))
      case D => constructor <;> (refine hsub _ ?_; k_memK)
end
theorem lines_6 : True := by
  k_with "call ref" => ((k_here; (with_reducible show wpAny _ _ (call (Value.ref 208) _ _) _ _ _); (try simp only [List.size_toArray]); k_dflt (refine' bean_U ?X_q9 ?T_q9 ?B_q9 ?F_q9 ?N_q9 ?U_q9 ?i_q9 ?n_q9 ?k_q9 ?m_q9 ?_; (case F_q9 => k_asm); (case X_q9 => k_in); (case T_q9 => with_reducible assumption); (case B_q9 => with_reducible assumption); (case N_q9 => k_asm); (case U_q9 => k_updF); (case i_q9 => with_reducible assumption); (case n_q9 => with_reducible assumption); (case k_q9 => with_reducible assumption); (case m_q9 => constructor <;> omega); k_whole); intro h' tk' r' t' us' ns' n' F' N' iB' nB' kB' a1 a2; (try dsimp only at N'); (try k_sweep)))
  k_with "subscriptTail" => ((k_here; (with_reducible show wpAny _ _ (subscriptTail _ _ (Value.ref _) (Value.int _ _)) _ _ _); k_dflt (refine' pickStr ?N_q9 ?m_q9 ?S_q9 ?a_q9 ?b_q9 ?c_q9 ?_ ?s_q9; (case N_q9 => k_asm); (case m_q9 => k_memK); (case S_q9 => repeat constructor); (case a_q9 => omega); (case b_q9 => (simp only [List.length_cons, List.length_nil]; omega)); (case c_q9 => exact Nat.le_of_ble_eq_true rfl); (case s_q9 => with_unfolding_all rfl); k_whole); intro x9 t9 hx9; (try dsimp only)))
  trivial

section
variable {prog : Program} {w : World} {h₀ : Heap} {L fa : Addr} {cd : Value} {mg mb : Str → Option Value} {mean : ExcName → Option Value} {E : Value → Shared → Prop} {Q : Flow → Shared → Prop} {s : Shared} {u : Str → Option Value} {own : List (Addr × Obj)}
  {lb dg dd ls lm le lp : Addr} {us vS vm vx vP : List Value} {nb kS kM kX kP dn : Nat} {ns : List Int} {oc : Obj} {des : List DictEntry} {st : Int} {tst : Tok}
theorem turn_pre (X : (hd.heap_39 w.params).In h₀) (T : Top hd.view_39 (looseW hd.view_39 [Str.ofString "GateloomError"]) mean mg mb h₀) (B : Below callerA h₀ [] h₀)
  (GL : Glob 0 mg mb (List.map itemOf (recsOf hd.view_39)) (scalarsOf [] ++ constsW hd.view_39) [] (namesW hd.view_39 [Str.ofString "GateloomError"]) h₀)
  (F : Fr h₀ L s.heap (fun y => if y = Str.ofString "step" then some (.int st tst)
    else if y = Str.ofString "design" then some (.ref dg) else if y = Str.ofString "made" then some (.ref lm) else if y = Str.ofString "entered" then some (.ref le) else if y = Str.ofString "paths_x" then some (.ref lp) else u y))
  (N : News h₀ L s.heap ((L + 1, oc) :: (lb, listOf us.toArray nb) :: (dg, instObj 190 dd) :: (dd, dictOf des dn) :: (ls, listOf vS.toArray kS) :: (lm, listOf vm.toArray kM) :: (le, listOf vx.toArray kX) :: (lp, listOf vP.toArray kP) :: own))
  (hoff : OwnOff own [L + 1, lb, dg, dd, ls, lm, le, lp])
  (q0 : Apart (L + 1) lb) (q1 : Apart (L + 1) dg) (q2 : Apart (L + 1) dd) (q3 : Apart (L + 1) ls) (q4 : Apart (L + 1) lm) (q5 : Apart (L + 1) le) (q6 : Apart (L + 1) lp) (q7 : Apart lb dg) (q8 : Apart lb dd) (q9 : Apart lb ls) (q10 : Apart lb lm) (q11 : Apart lb le) (q12 : Apart lb lp) (q13 : Apart dg dd) (q14 : Apart dg ls) (q15 : Apart dg lm) (q16 : Apart dg le) (q17 : Apart dg lp) (q18 : Apart dd ls) (q19 : Apart dd lm) (q20 : Apart dd le) (q21 : Apart dd lp) (q22 : Apart ls lm) (q23 : Apart ls le) (q24 : Apart ls lp) (q25 : Apart lm le) (q26 : Apart lm lp) (q27 : Apart le lp)
  (hoc : oc.data = .cell (some (.ref lb))) (hi : IntsAre us ns) (hn : ns.length ≤ 80) (hk : ∀ k ∈ ns, 0 ≤ k ∧ k < 37) (hvm : 1 ≤ vm.length ∧ vm.length ≤ 20)
  (hQ : ∀ (h' : Heap) (tk : Nat) (us' : List Value) (ns' : List Int) (nb' : Nat) (ab : Int) (tab : Tok) (nm : Str) (tnm : Tok) (kd : Str) (tkd : Tok),
    Fr h₀ L h' (fun y => if y = Str.ofString "refused" then some .none else if y = Str.ofString "kind" then some (.str kd tkd) else if y = Str.ofString "name" then some (.str nm tnm) else if y = Str.ofString "above" then some (.int ab tab) else if y = Str.ofString "step" then some (.int st tst)
      else if y = Str.ofString "design" then some (.ref dg) else if y = Str.ofString "made" then some (.ref lm) else if y = Str.ofString "entered" then some (.ref le) else if y = Str.ofString "paths_x" then some (.ref lp) else u y) →
    News h₀ L h' ((L + 1, oc) :: (lb, listOf us'.toArray nb') :: (dg, instObj 190 dd) :: (dd, dictOf des dn) :: (ls, listOf vS.toArray kS) :: (lm, listOf vm.toArray kM) :: (le, listOf vx.toArray kX) :: (lp, listOf vP.toArray kP) :: own) →
    IntsAre us' ns' → ns'.length ≤ 80 → (∀ k ∈ ns', 0 ≤ k ∧ k < 37) → 0 ≤ ab → ab < vm.length → nm ∈ [Str.ofString "a", Str.ofString "b", Str.ofString "c"] →
    wpAny (model prog w) (callerA.deeper (lawEnv L fa cd)) (execs (mainTurn.drop 4) (lawEnv L fa cd)) Q E { s with heap := h', toks := tk }) :
  wpAny (model prog w) (callerA.deeper (lawEnv L fa cd)) (execs mainTurn (lawEnv L fa cd)) Q E s := by
  refine execs_split (mainTurn.take 4) (mainTurn.drop 4) ?_
  generalize List.drop 4 mainTurn = rest at hQ ⊢
  conv in List.take 4 mainTurn => whnf
  unfold lawEnv at hQ ⊢
  conv in (occs := *) lawScope => all_goals whnf
  k_steps
  show wpAny (model prog w) _ (execs [] _) _ E _
  refine wpAny_execs_nil ?_
  show wpAny (model prog w) _ (execs rest _) Q E _
  rename News _ _ _ _ => NN
  refine' hQ _ _ _ _ _ _ _ _ _ _ _ ?zF (news_drop2 NN) ?zi ?zn ?zk ?za ?zb ?zm
  case zF => with_reducible assumption
  all_goals with_reducible assumption
end

theorem apb {l : List Addr} {a b : Addr} (h : l.Nodup) (i j : Nat) (hij : Nat.blt i j = true) (h1 : l[i]? = some a) (h2 : l[j]? = some b) : Apart a b := ap h i j (Nat.le_of_ble_eq_true hij) h1 h2
theorem apb' {l : List Addr} {a b : Addr} (h : l.Nodup) (i j : Nat) (hij : Nat.blt i j = true) (h1 : l[i]? = some b) (h2 : l[j]? = some a) : Apart a b := fun e => ap h i j (Nat.le_of_ble_eq_true hij) h1 h2 e.symm
theorem mi {α : Type} {l : List α} {a : α} (i : Nat) (h : l[i]? = some a) : a ∈ l := List.mem_of_getElem? h
theorem md {α : Type} {l : List α} {a : α} (i : Nat) (h : a ∈ l.drop i) : a ∈ l := List.mem_of_mem_drop h
theorem rot {α : Type} {l : List α} {x a : α} (h : a ∈ l ++ [x]) : a ∈ x :: l := (List.mem_append.mp h).elim (List.mem_cons_of_mem _) fun h => (List.mem_singleton.mp h) ▸ List.mem_cons_self ..
theorem lt_adr {l : List (Addr × Obj)} {n : Addr} (h : ∀ p ∈ l, @LT.lt Nat _ p.1 n) {b : Addr} (hb : b ∈ l.map (·.1)) : @LT.lt Nat _ b n := by
  obtain ⟨p, hp, e⟩ := List.mem_map.mp hb
  exact e ▸ h p hp

theorem ap' {l : List Addr} {a b : Addr} (h : l.Nodup) (i j : Nat) (hij : i < j) (h1 : l[i]? = some b) (h2 : l[j]? = some a) : Apart a b := fun e => ap h i j hij h1 h2 e.symm
theorem Heads.off {Λ : List (Addr × Obj)} {wr : List Addr} {L : Addr} {oc : Obj} {lb : Addr} {us : List Value} {nb : Nat} {dg dd : Addr} {des : List DictEntry} {dn : Nat} {ls : Addr} {vS : List Value} {kS : Nat} {lm : Addr} {vm : List Value} {kM : Nat} {le : Addr} {vx : List Value} {kX : Nat} {lp : Addr} {vP : List Value} {kP : Nat}
    (H : Heads Λ L oc lb us nb dg dd des dn ls vS kS lm vm kM le vx kX lp vP kP) (h : ∀ b ∈ [L + 1, lb, dg, dd, ls, lm, le], b ∉ wr) (h2 : lp ∉ wr) : Heads (off Λ wr) L oc lb us nb dg dd des dn ls vS kS lm vm kM le vx kX lp vP kP :=
  ⟨mem_off.mpr ⟨H.c, h _ (by simp)⟩, mem_off.mpr ⟨H.b, h _ (by simp)⟩, mem_off.mpr ⟨H.g, h _ (by simp)⟩, mem_off.mpr ⟨H.d, h _ (by simp)⟩, mem_off.mpr ⟨H.s, h _ (by simp)⟩, mem_off.mpr ⟨H.m, h _ (by simp)⟩, mem_off.mpr ⟨H.e, h _ (by simp)⟩, mem_off.mpr ⟨H.p, h2⟩⟩
theorem Quad.off {Λ : List (Addr × Obj)} {wr : List Addr} {a d e x : Addr} {es : List DictEntry} {en : Nat} {oe ox : Obj} (H : Quad Λ a d e x es en oe ox) (h : ∀ b ∈ [a, d, e, x], b ∉ wr) : Quad (off Λ wr) a d e x es en oe ox :=
  ⟨mem_off.mpr ⟨H.a, h _ (by simp)⟩, mem_off.mpr ⟨H.d, h _ (by simp)⟩, mem_off.mpr ⟨H.e, h _ (by simp)⟩, mem_off.mpr ⟨H.x, h _ (by simp)⟩⟩
theorem base_eq {dg lm le lp : Addr} {u : Str → Option Value} : base dg lm le lp u = fun y => if y = Str.ofString "design" then some (.ref dg) else if y = Str.ofString "made" then some (.ref lm) else if y = Str.ofString "entered" then some (.ref le) else if y = Str.ofString "paths_x" then some (.ref lp) else u y := rfl
section
variable {prog : Program} {w : World} {h₀ : Heap} {L fa : Addr} {cd : Value} {mg mb : Str → Option Value} {mean : ExcName → Option Value} {E : Value → Shared → Prop} {s : Shared} {u : Str → Option Value} {o Λ : List (Addr × Obj)} {wr : List Addr} {Qr : Value → Shared → Prop} {Qb : Shared → Prop}
  {lb dg dd ls lm le lp : Addr} {k : Nat} {oc : Obj} {us : List Value} {ns : List Int} {nb : Nat} {des : List DictEntry} {dn : Nat} {vS : List Value} {kS kM kX : Nat} {vP : List Value} {kP : Nat} {ss : List Str} {scs : List Sc} {tst : Tok}
theorem turn_end {f : Flow} {h' : Heap} {tk : Nat} {big : List (Addr × Obj)} {lp' : Addr} {u' : Str → Option Value} {us' : List Value} {ns' : List Int} {nb' : Nat} {des' : List DictEntry} {dn' : Nat} {vS' : List Value} {kS' kM' kX' : Nat} {vP' : List Value} {kP' : Nat} {ss' : List Str} {scs' : List Sc} {k' : Nat} (hf : f = .next ∨ f = .cont) (F : Fr h₀ L h' (base dg lm le lp' u')) (N : News h₀ L h' big) (ho : ∀ p ∈ o, p ∈ big)
    (I : LInv prog w L lb dg dd ls lm le k' (off big wr) lp' oc us' ns' nb' des' dn' vS' kS' kM' kX' vP' kP' ss' scs') :
    LoopStepV h₀ L wr o (JInv prog w L lb dg dd ls lm le k') s Qr Qb f { s with heap := h', toks := tk } := by
  have key : LoopStepU h₀ L wr o (JInv prog w L lb dg dd ls lm le k') s .next { s with heap := h', toks := tk } :=
    .intro F (fun p hp => N p ((List.mem_append.mp hp).elim (ho p) fun h => (mem_off.mp h).1)) (fun p hp => (mem_off.mp hp).2) ⟨_, _, _, _, _, _, _, _, _, _, _, _, _, _, _, I, _, rfl⟩
  rcases hf with rfl | rfl
  · exact .next key
  · exact .cont key
theorem turn_all (X : (hd.heap_39 w.params).In h₀) (T : Top hd.view_39 (looseW hd.view_39 [Str.ofString "GateloomError"]) mean mg mb h₀) (B : Below callerA h₀ [] h₀)
  (GL : Glob 0 mg mb (List.map itemOf (recsOf hd.view_39)) (scalarsOf [] ++ constsW hd.view_39) [] (namesW hd.view_39 [Str.ofString "GateloomError"]) h₀)
  (hk9 : k ≤ 9) (I : LInv prog w L lb dg dd ls lm le k Λ lp oc us ns nb des dn vS kS kM kX vP kP ss scs)
  (F : Fr h₀ L s.heap (fun y => if y = Str.ofString "step" then some (.int (k : Int) tst) else base dg lm le lp u y)) (N : News h₀ L s.heap (o ++ Λ))
  (ho : ∀ p ∈ o, ∀ q ∈ Λ, p.1 ≠ q.1) (hwr : ∀ b ∈ wr, ∃ x, (b, x) ∈ o) :
  wpAny (model prog w) (callerA.deeper (lawEnv L fa cd)) (execs mainTurn (lawEnv L fa cd)) (LoopStepV h₀ L wr o (JInv prog w L lb dg dd ls lm le (k + 1)) s Qr Qb) E s := by
  obtain ⟨c0, hc0, _⟩ := I.first
  have nd0 := I.nd 0 c0 hc0
  have hsc := I.hsc
  have hss := I.hss
  have hlen : 1 ≤ scs.length := (List.getElem?_eq_some_iff.mp hc0).1
  have NΛ : News h₀ L s.heap Λ := fun p hp => N p (List.mem_append_right _ hp)
  have inB : ∀ p ∈ Λ, p ∈ o ++ Λ := fun p hp => List.mem_append_right _ hp
  have N8 : News h₀ L s.heap ((L + 1, oc) :: (lb, listOf us.toArray nb) :: (dg, instObj 190 dd) :: (dd, dictOf des dn) :: (ls, listOf vS.toArray kS) :: (lm, listOf (scs.map fun c => Value.ref c.a).toArray kM) :: (le, listOf (scs.map fun c => Value.ref c.x).toArray kX) :: (lp, listOf vP.toArray kP) :: off (o ++ Λ) [lp, L + 1, lb, dg, dd, ls, lm, le]) :=
    (nc NΛ I.hd.c (nc NΛ I.hd.b (nc NΛ I.hd.g (nc NΛ I.hd.d (nc NΛ I.hd.s (nc NΛ I.hd.m (nc NΛ I.hd.e (nc NΛ I.hd.p (fun p hp => N _ (mem_off.mp hp).1)))))))))
  have hoff8 : OwnOff (off (o ++ Λ) [lp, L + 1, lb, dg, dd, ls, lm, le]) [L + 1, lb, dg, dd, ls, lm, le, lp] := fun p hp b hb e => (mem_off.mp hp).2 (by rw [e]; exact rot (l := [L + 1, lb, dg, dd, ls, lm, le]) hb)
  refine turn_pre X T B GL F N8 hoff8 (apb nd0 1 2 rfl rfl rfl) (apb nd0 1 3 rfl rfl rfl) (apb nd0 1 4 rfl rfl rfl) (apb nd0 1 5 rfl rfl rfl) (apb nd0 1 6 rfl rfl rfl) (apb nd0 1 7 rfl rfl rfl) (apb' nd0 0 1 rfl rfl rfl) (apb nd0 2 3 rfl rfl rfl) (apb nd0 2 4 rfl rfl rfl) (apb nd0 2 5 rfl rfl rfl) (apb nd0 2 6 rfl rfl rfl) (apb nd0 2 7 rfl rfl rfl) (apb' nd0 0 2 rfl rfl rfl) (apb nd0 3 4 rfl rfl rfl) (apb nd0 3 5 rfl rfl rfl) (apb nd0 3 6 rfl rfl rfl) (apb nd0 3 7 rfl rfl rfl) (apb' nd0 0 3 rfl rfl rfl) (apb nd0 4 5 rfl rfl rfl) (apb nd0 4 6 rfl rfl rfl) (apb nd0 4 7 rfl rfl rfl) (apb' nd0 0 4 rfl rfl rfl) (apb nd0 5 6 rfl rfl rfl) (apb nd0 5 7 rfl rfl rfl) (apb' nd0 0 5 rfl rfl rfl) (apb nd0 6 7 rfl rfl rfl) (apb' nd0 0 6 rfl rfl rfl) (apb' nd0 0 7 rfl rfl rfl) I.hoc I.hi I.hn I.hk ⟨by rw [List.length_map]; omega, by rw [List.length_map]; omega⟩ ?_
  intro h1 tk1 us' ns' nb' ab tab nm tnm kd tkd F1 N1 hi' hn' hk' ha0 ha1 hnm
  have hnm1 : nm.length ≤ 1 := by
    simp only [List.mem_cons, List.not_mem_nil, or_false] at hnm
    rcases hnm with rfl | rfl | rfl <;> exact Nat.le_of_ble_eq_true rfl
  rw [List.length_map] at ha1
  have hi1 : ab.toNat < scs.length := by omega
  obtain ⟨c, hc⟩ : ∃ c, scs[ab.toNat]? = some c := ⟨_, List.getElem?_eq_getElem hi1⟩
  have C := I.ok _ c hc
  have nd := I.nd _ c hc
  have hpa := C.hpa
  have hke := C.hke
  have hkx : c.kx.length ≤ k := by have := congrArg List.length C.keys; simp only [List.length_map] at this; omega
  have hvS : vS.length = vP.length := by rw [strs_len I.hS, strs_len I.hP]
  have hvP : vP.length ≤ 1 + k := by rw [strs_len I.hP]; exact hss
  have hva : (scs.map fun c => Value.ref c.a).toArray[ab.toNat]? = some (.ref c.a) := by rw [List.getElem?_toArray, List.getElem?_map, hc]; rfl
  have hvx : (scs.map fun c => Value.ref c.x).toArray[ab.toNat]? = some (.ref c.x) := by rw [List.getElem?_toArray, List.getElem?_map, hc]; rfl
  have nd' : ([lp, L + 1, lb, dg, dd, ls, lm, le] ++ [c.a, c.d, c.e, c.x]).Nodup := nd
  have quad8 : ∀ p ∈ Λ, p.1 ∈ [c.a, c.d, c.e, c.x] → p ∈ off (o ++ Λ) [lp, L + 1, lb, dg, dd, ls, lm, le] := fun p hp hq => mem_off.mpr ⟨inB p hp, fun h => (List.nodup_append.mp nd').2.2 _ h _ hq rfl⟩
  have N12 : News h₀ L h1 ((L + 1, oc) :: (lb, listOf us'.toArray nb') :: (dg, instObj 190 dd) :: (dd, dictOf des dn) :: (ls, listOf vS.toArray kS) :: (lm, listOf (scs.map fun c => Value.ref c.a).toArray kM) :: (le, listOf (scs.map fun c => Value.ref c.x).toArray kX) :: (lp, listOf vP.toArray kP) :: (c.a, instObj 127 c.d) :: (c.d, dictOf c.es c.en) :: (c.e, c.oe) :: (c.x, c.ox) :: off (off (o ++ Λ) [lp, L + 1, lb, dg, dd, ls, lm, le]) [c.a, c.d, c.e, c.x]) :=
    (nc N1 (mi 0 rfl) (nc N1 (mi 1 rfl) (nc N1 (mi 2 rfl) (nc N1 (mi 3 rfl) (nc N1 (mi 4 rfl) (nc N1 (mi 5 rfl) (nc N1 (mi 6 rfl) (nc N1 (mi 7 rfl) (nc N1 (md 8 (quad8 _ C.q.a (mi 0 rfl))) (nc N1 (md 8 (quad8 _ C.q.d (mi 1 rfl))) (nc N1 (md 8 (quad8 _ C.q.e (mi 2 rfl))) (nc N1 (md 8 (quad8 _ C.q.x (mi 3 rfl))) (fun p hp => N1 _ (md 8 (mem_off.mp hp).1))))))))))))))
  have hoff12 : OwnOff (off (off (o ++ Λ) [lp, L + 1, lb, dg, dd, ls, lm, le]) [c.a, c.d, c.e, c.x]) [L + 1, lb, dg, dd, ls, lm, le, lp, c.a, c.d, c.e, c.x] := by
    intro p hp b hb e
    have hb' : b ∈ [L + 1, lb, dg, dd, ls, lm, le, lp] ++ [c.a, c.d, c.e, c.x] := hb
    rcases List.mem_append.mp hb' with hb' | hb'
    · exact hoff8 p (mem_off.mp hp).1 b hb' e
    · exact (mem_off.mp hp).2 (e ▸ hb')
  have hnwr : ∀ b ∈ [lp, L + 1, lb, dg, dd, ls, lm, le, c.a, c.d, c.e, c.x], b ∉ wr := fun b hb hw => by
    obtain ⟨x, hx⟩ := hwr b hw
    obtain ⟨y, hy, _⟩ := heads_in I hc b hb
    exact ho _ hx _ hy rfl
  have own12 : ∀ p ∈ o ++ Λ, p.1 ∉ [lp, L + 1, lb, dg, dd, ls, lm, le, c.a, c.d, c.e, c.x] → p ∈ off (off (o ++ Λ) [lp, L + 1, lb, dg, dd, ls, lm, le]) [c.a, c.d, c.e, c.x] := fun p hp hn =>
    mem_off.mpr ⟨mem_off.mpr ⟨hp, fun h => hn (List.mem_append_left [c.a, c.d, c.e, c.x] h)⟩, fun h => hn (List.mem_append_right [lp, L + 1, lb, dg, dd, ls, lm, le] h)⟩
  have o12 : ∀ p ∈ o, p ∈ off (off (o ++ Λ) [lp, L + 1, lb, dg, dd, ls, lm, le]) [c.a, c.d, c.e, c.x] := fun p hp => own12 p (List.mem_append_left _ hp) fun hn => by
    obtain ⟨y, hy, _⟩ := heads_in I hc _ hn
    exact ho p hp _ hy rfl
  have kept : ∀ big, (∀ p ∈ off (off (o ++ Λ) [lp, L + 1, lb, dg, dd, ls, lm, le]) [c.a, c.d, c.e, c.x], p ∈ big) → Kept Λ (off big wr) [lp, L + 1, lb, dg, dd, ls, lm, le, c.a, c.d, c.e, c.x] := fun big hb => ⟨fun p hp hn => mem_off.mpr ⟨hb p (own12 p (inB p hp) hn), fun hw => by
    obtain ⟨x, hx⟩ := hwr _ hw
    exact ho _ hx p hp rfl⟩⟩
  have n8wr : ∀ b ∈ [L + 1, lb, dg, dd, ls, lm, le], b ∉ wr := fun b hb => hnwr b (List.mem_cons_of_mem _ (List.mem_append_left [c.a, c.d, c.e, c.x] hb))
  have lpwr : lp ∉ wr := hnwr lp (List.mem_cons_self ..)
  have n4wr : ∀ b ∈ [c.a, c.d, c.e, c.x], b ∉ wr := fun b hb => hnwr b (List.mem_append_right [lp, L + 1, lb, dg, dd, ls, lm, le] hb)
  have isx : (valueAt c.kx nm).isSome = (valueAt c.ke nm).isSome := isSome_keys C.keys nm
  have wrlt : ∀ n, AllLt n ((L + 1, oc) :: (lb, listOf us'.toArray nb') :: (dg, instObj 190 dd) :: (dd, dictOf des dn) :: (ls, listOf vS.toArray kS) :: (lm, listOf (scs.map fun c => Value.ref c.a).toArray kM) :: (le, listOf (scs.map fun c => Value.ref c.x).toArray kX) :: (lp, listOf vP.toArray kP) :: (c.a, instObj 127 c.d) :: (c.d, dictOf c.es c.en) :: (c.e, c.oe) :: (c.x, c.ox) :: off (off (o ++ Λ) [lp, L + 1, lb, dg, dd, ls, lm, le]) [c.a, c.d, c.e, c.x]) → n ∉ wr ∧ ∀ b, b ∈ wr → b < n := fun n hn => by
    have hh : ∀ b, b ∈ wr → b < n := fun b hb => by
      obtain ⟨x, hx⟩ := hwr b hb
      exact kst_ltOf hn _ (md 12 (o12 _ hx))
    exact ⟨fun h => Nat.lt_irrefl _ (hh n h), hh⟩
  have fresh : ∀ n, AllLt n ((L + 1, oc) :: (lb, listOf us'.toArray nb') :: (dg, instObj 190 dd) :: (dd, dictOf des dn) :: (ls, listOf vS.toArray kS) :: (lm, listOf (scs.map fun c => Value.ref c.a).toArray kM) :: (le, listOf (scs.map fun c => Value.ref c.x).toArray kX) :: (lp, listOf vP.toArray kP) :: (c.a, instObj 127 c.d) :: (c.d, dictOf c.es c.en) :: (c.e, c.oe) :: (c.x, c.ox) :: off (off (o ++ Λ) [lp, L + 1, lb, dg, dd, ls, lm, le]) [c.a, c.d, c.e, c.x]) → ∀ p ∈ Λ, p.1 < n := fun n hn p hp => by
    have hl := kst_ltOf hn
    by_cases hb : p.1 ∈ [lp, L + 1, lb, dg, dd, ls, lm, le, c.a, c.d, c.e, c.x]
    · rcases List.mem_cons.mp hb with h | h
      · rw [h]; exact hl _ (mi 7 rfl)
      · have h' : p.1 ∈ [L + 1, lb, dg, dd, ls, lm, le] ++ [c.a, c.d, c.e, c.x] := h
        rcases List.mem_append.mp h' with h | h
        · exact lt_adr (fun q hq => hl q (List.mem_of_mem_take (i := 7) hq)) h
        · exact lt_adr (fun q hq => hl q (md 8 (List.mem_of_mem_take (i := 4) hq))) h
    · exact hl p (md 12 (own12 p (inB p hp) hb))
  cases hsg : kd == Str.ofString "sig" with
  | true =>
    have hkd : kd = Str.ofString "sig" := eq_of_beq hsg
    cases he : (valueAt c.ke nm).isSome with
    | false =>
      refine turn_sig0 X T B GL F1 N12 hoff12 (apb nd 1 2 rfl rfl rfl) (apb nd 1 3 rfl rfl rfl) (apb nd 1 4 rfl rfl rfl) (apb nd 1 5 rfl rfl rfl) (apb nd 1 6 rfl rfl rfl) (apb nd 1 7 rfl rfl rfl) (apb' nd 0 1 rfl rfl rfl) (apb nd 1 8 rfl rfl rfl) (apb nd 1 9 rfl rfl rfl) (apb nd 1 10 rfl rfl rfl) (apb nd 1 11 rfl rfl rfl) (apb nd 2 3 rfl rfl rfl) (apb nd 2 4 rfl rfl rfl) (apb nd 2 5 rfl rfl rfl) (apb nd 2 6 rfl rfl rfl) (apb nd 2 7 rfl rfl rfl) (apb' nd 0 2 rfl rfl rfl) (apb nd 2 8 rfl rfl rfl) (apb nd 2 9 rfl rfl rfl) (apb nd 2 10 rfl rfl rfl) (apb nd 2 11 rfl rfl rfl) (apb nd 3 4 rfl rfl rfl) (apb nd 3 5 rfl rfl rfl) (apb nd 3 6 rfl rfl rfl) (apb nd 3 7 rfl rfl rfl) (apb' nd 0 3 rfl rfl rfl) (apb nd 3 8 rfl rfl rfl) (apb nd 3 9 rfl rfl rfl) (apb nd 3 10 rfl rfl rfl) (apb nd 3 11 rfl rfl rfl) (apb nd 4 5 rfl rfl rfl) (apb nd 4 6 rfl rfl rfl) (apb nd 4 7 rfl rfl rfl) (apb' nd 0 4 rfl rfl rfl) (apb nd 4 8 rfl rfl rfl) (apb nd 4 9 rfl rfl rfl) (apb nd 4 10 rfl rfl rfl) (apb nd 4 11 rfl rfl rfl) (apb nd 5 6 rfl rfl rfl) (apb nd 5 7 rfl rfl rfl) (apb' nd 0 5 rfl rfl rfl) (apb nd 5 8 rfl rfl rfl) (apb nd 5 9 rfl rfl rfl) (apb nd 5 10 rfl rfl rfl) (apb nd 5 11 rfl rfl rfl) (apb nd 6 7 rfl rfl rfl) (apb' nd 0 6 rfl rfl rfl) (apb nd 6 8 rfl rfl rfl) (apb nd 6 9 rfl rfl rfl) (apb nd 6 10 rfl rfl rfl) (apb nd 6 11 rfl rfl rfl) (apb' nd 0 7 rfl rfl rfl) (apb nd 7 8 rfl rfl rfl) (apb nd 7 9 rfl rfl rfl) (apb nd 7 10 rfl rfl rfl) (apb nd 7 11 rfl rfl rfl) (apb nd 0 8 rfl rfl rfl) (apb nd 0 9 rfl rfl rfl) (apb nd 0 10 rfl rfl rfl) (apb nd 0 11 rfl rfl rfl) (apb nd 8 9 rfl rfl rfl) (apb nd 8 10 rfl rfl rfl) (apb nd 8 11 rfl rfl rfl) (apb nd 9 10 rfl rfl rfl) (apb nd 9 11 rfl rfl rfl) (apb nd 10 11 rfl rfl rfl) I.hoc hi' ⟨by omega, by omega⟩ ⟨ha0, by omega⟩ hva hvx (by rw [List.length_map]; omega) (by rw [List.length_map]; omega) hvS (by omega) I.g1 C.f.g2 C.f.g3 C.f.g4 C.f.g5 C.f.g6 C.f.g7 C.f.g8 I.g9 C.de C.dx (by omega) hnm1 (by omega) (by omega) C.le1 C.lx1 rfl C.keys hkd he (isx.trans he) ?_
      intro u2 h2 tk2 big oe' ox' t1 t2 k1 k2 F2 N2 hown H2 Q2 d1 d2 m1 m2 l1 l2
      exact turn_end (.inr rfl) F2 N2 (fun p hp => hown p (o12 p hp)) (inv_sig0 I hc NΛ (kept big hown) hi' hn' hk' (H2.off n8wr lpwr) (Q2.off n4wr) he (isx.trans he) d1 d2 (mem_off.mpr ⟨m1, (wrlt _ l1).1⟩) (mem_off.mpr ⟨m2, (wrlt _ l2).1⟩))
    | true =>
      refine turn_sig1 X T B GL F1 N12 hoff12 (apb nd 1 2 rfl rfl rfl) (apb nd 1 3 rfl rfl rfl) (apb nd 1 4 rfl rfl rfl) (apb nd 1 5 rfl rfl rfl) (apb nd 1 6 rfl rfl rfl) (apb nd 1 7 rfl rfl rfl) (apb' nd 0 1 rfl rfl rfl) (apb nd 1 8 rfl rfl rfl) (apb nd 1 9 rfl rfl rfl) (apb nd 1 10 rfl rfl rfl) (apb nd 1 11 rfl rfl rfl) (apb nd 2 3 rfl rfl rfl) (apb nd 2 4 rfl rfl rfl) (apb nd 2 5 rfl rfl rfl) (apb nd 2 6 rfl rfl rfl) (apb nd 2 7 rfl rfl rfl) (apb' nd 0 2 rfl rfl rfl) (apb nd 2 8 rfl rfl rfl) (apb nd 2 9 rfl rfl rfl) (apb nd 2 10 rfl rfl rfl) (apb nd 2 11 rfl rfl rfl) (apb nd 3 4 rfl rfl rfl) (apb nd 3 5 rfl rfl rfl) (apb nd 3 6 rfl rfl rfl) (apb nd 3 7 rfl rfl rfl) (apb' nd 0 3 rfl rfl rfl) (apb nd 3 8 rfl rfl rfl) (apb nd 3 9 rfl rfl rfl) (apb nd 3 10 rfl rfl rfl) (apb nd 3 11 rfl rfl rfl) (apb nd 4 5 rfl rfl rfl) (apb nd 4 6 rfl rfl rfl) (apb nd 4 7 rfl rfl rfl) (apb' nd 0 4 rfl rfl rfl) (apb nd 4 8 rfl rfl rfl) (apb nd 4 9 rfl rfl rfl) (apb nd 4 10 rfl rfl rfl) (apb nd 4 11 rfl rfl rfl) (apb nd 5 6 rfl rfl rfl) (apb nd 5 7 rfl rfl rfl) (apb' nd 0 5 rfl rfl rfl) (apb nd 5 8 rfl rfl rfl) (apb nd 5 9 rfl rfl rfl) (apb nd 5 10 rfl rfl rfl) (apb nd 5 11 rfl rfl rfl) (apb nd 6 7 rfl rfl rfl) (apb' nd 0 6 rfl rfl rfl) (apb nd 6 8 rfl rfl rfl) (apb nd 6 9 rfl rfl rfl) (apb nd 6 10 rfl rfl rfl) (apb nd 6 11 rfl rfl rfl) (apb' nd 0 7 rfl rfl rfl) (apb nd 7 8 rfl rfl rfl) (apb nd 7 9 rfl rfl rfl) (apb nd 7 10 rfl rfl rfl) (apb nd 7 11 rfl rfl rfl) (apb nd 0 8 rfl rfl rfl) (apb nd 0 9 rfl rfl rfl) (apb nd 0 10 rfl rfl rfl) (apb nd 0 11 rfl rfl rfl) (apb nd 8 9 rfl rfl rfl) (apb nd 8 10 rfl rfl rfl) (apb nd 8 11 rfl rfl rfl) (apb nd 9 10 rfl rfl rfl) (apb nd 9 11 rfl rfl rfl) (apb nd 10 11 rfl rfl rfl) I.hoc hi' ⟨by omega, by omega⟩ ⟨ha0, by omega⟩ hva hvx (by rw [List.length_map]; omega) (by rw [List.length_map]; omega) hvS (by omega) I.g1 C.f.g2 C.f.g3 C.f.g4 C.f.g5 C.f.g6 C.f.g7 C.f.g8 I.g9 C.de C.dx (by omega) hnm1 (by omega) (by omega) C.le1 C.lx1 rfl C.keys hkd he (isx.trans he) ?_
      intro u2 h2 tk2 big F2 N2 hown H2 Q2
      exact turn_end (.inr rfl) F2 N2 (fun p hp => hown p (o12 p hp)) (inv_sig1 I hc NΛ (kept big hown) hi' hn' hk' (H2.off n8wr lpwr) (Q2.off n4wr))
  | false =>
    refine' turn_sub X T B GL F1 N12 hoff12 (apb nd 1 2 rfl rfl rfl) (apb nd 1 3 rfl rfl rfl) (apb nd 1 4 rfl rfl rfl) (apb nd 1 5 rfl rfl rfl) (apb nd 1 6 rfl rfl rfl) (apb nd 1 7 rfl rfl rfl) (apb' nd 0 1 rfl rfl rfl) (apb nd 1 8 rfl rfl rfl) (apb nd 1 9 rfl rfl rfl) (apb nd 1 10 rfl rfl rfl) (apb nd 1 11 rfl rfl rfl) (apb nd 2 3 rfl rfl rfl) (apb nd 2 4 rfl rfl rfl) (apb nd 2 5 rfl rfl rfl) (apb nd 2 6 rfl rfl rfl) (apb nd 2 7 rfl rfl rfl) (apb' nd 0 2 rfl rfl rfl) (apb nd 2 8 rfl rfl rfl) (apb nd 2 9 rfl rfl rfl) (apb nd 2 10 rfl rfl rfl) (apb nd 2 11 rfl rfl rfl) (apb nd 3 4 rfl rfl rfl) (apb nd 3 5 rfl rfl rfl) (apb nd 3 6 rfl rfl rfl) (apb nd 3 7 rfl rfl rfl) (apb' nd 0 3 rfl rfl rfl) (apb nd 3 8 rfl rfl rfl) (apb nd 3 9 rfl rfl rfl) (apb nd 3 10 rfl rfl rfl) (apb nd 3 11 rfl rfl rfl) (apb nd 4 5 rfl rfl rfl) (apb nd 4 6 rfl rfl rfl) (apb nd 4 7 rfl rfl rfl) (apb' nd 0 4 rfl rfl rfl) (apb nd 4 8 rfl rfl rfl) (apb nd 4 9 rfl rfl rfl) (apb nd 4 10 rfl rfl rfl) (apb nd 4 11 rfl rfl rfl) (apb nd 5 6 rfl rfl rfl) (apb nd 5 7 rfl rfl rfl) (apb' nd 0 5 rfl rfl rfl) (apb nd 5 8 rfl rfl rfl) (apb nd 5 9 rfl rfl rfl) (apb nd 5 10 rfl rfl rfl) (apb nd 5 11 rfl rfl rfl) (apb nd 6 7 rfl rfl rfl) (apb' nd 0 6 rfl rfl rfl) (apb nd 6 8 rfl rfl rfl) (apb nd 6 9 rfl rfl rfl) (apb nd 6 10 rfl rfl rfl) (apb nd 6 11 rfl rfl rfl) (apb' nd 0 7 rfl rfl rfl) (apb nd 7 8 rfl rfl rfl) (apb nd 7 9 rfl rfl rfl) (apb nd 7 10 rfl rfl rfl) (apb nd 7 11 rfl rfl rfl) (apb nd 0 8 rfl rfl rfl) (apb nd 0 9 rfl rfl rfl) (apb nd 0 10 rfl rfl rfl) (apb nd 0 11 rfl rfl rfl) (apb nd 8 9 rfl rfl rfl) (apb nd 8 10 rfl rfl rfl) (apb nd 8 11 rfl rfl rfl) (apb nd 9 10 rfl rfl rfl) (apb nd 9 11 rfl rfl rfl) (apb nd 10 11 rfl rfl rfl) I.hoc hi' ⟨by omega, by omega⟩ ⟨ha0, by omega⟩ hva hvx (by rw [List.length_map]; omega) (by rw [List.length_map]; omega) hvS (by omega) I.g1 C.f.g2 C.f.g3 C.f.g4 C.f.g5 C.f.g6 C.f.g7 C.f.g8 I.g9 C.de C.dx (by omega) hnm1 (by omega) (by omega) C.le1 C.lx1 rfl C.keys hsg (by rw [bne, hsg]; rfl) isx ?sub0 ?sub1
    case sub0 =>
      intro he u2 h2 tk2 big oe' ox' oe2 ox2 t1 a' d' e' x' k1 tp1 tp2 tn ti es' n' kS' kM' kX' kP' F2 N2 hown H2 Q2 d1 d2 m1 Q3 d3 d4 y1 y2 f l1 l2 o1 o2 o3
      have w2 := (wrlt _ l2).2
      refine turn_end (.inl rfl) F2 N2 (fun p hp => hown p (o12 p hp)) (inv_sub0 I hc NΛ (kept big hown) hi' hn' hk' (fresh _ l2) o1 o2 o3 (H2.off n8wr lpwr) (Q2.off n4wr) (Q3.off fun b hb hw => ?_) he (isx.trans he) hnm1 d1 d2 (mem_off.mpr ⟨m1, (wrlt _ l1).1⟩) d3 d4 y1 y2 f)
      have z := w2 b hw
      simp only [List.mem_cons, List.not_mem_nil, or_false] at hb
      rcases hb with h | h | h | h
      · rw [h] at z; exact Nat.lt_asymm z o1
      · rw [h] at z; exact Nat.lt_irrefl _ z
      · rw [h] at z; exact Nat.lt_asymm z (Nat.lt_trans o1 o2)
      · rw [h] at z; exact Nat.lt_asymm z (Nat.lt_trans (Nat.lt_trans o1 o2) o3)
    case sub1 =>
      intro he u2 h2 tk2 big lp' tp1 kS' kP' F2 N2 hown H2 l1 Q2
      exact turn_end (.inr rfl) F2 N2 (fun p hp => hown p (o12 p hp)) (inv_sub1 (v := .none) (v' := .none) (t' := 0) I hc NΛ (kept big hown) hi' hn' hk' (fresh _ l1) (H2.off n8wr (wrlt _ l1).1) (Q2.off n4wr))
end
section
variable {prog : Program} {w : World} {A : Around} {E : Value → Shared → Prop} {s : Shared} {env : Env} {h₀ : Heap} {x : Str} {body : List Stmt} {Q : Flow → Shared → Prop}
theorem iter_rangeJ {r : Addr} {b₀ : Int} {t₀ u₀ v₀ : Tok} {n : Nat} {m₀ : Str → Option Value} {news : List (Addr × Obj)} (J : Nat → (Str → Option Value) → List (Addr × Obj) → Prop)
    (hh : A.handled = none) (hr : IsRange s.heap r 0 b₀ 1 t₀ u₀ v₀) (hsmall : Builtin.Range.small 0 b₀ 1 = true) (hn : Builtin.Range.rangeSize 0 b₀ 1 = (n : Int)) (F : Fr h₀ env.locals s.heap m₀) (N : News h₀ env.locals s.heap news) (hj : J 0 m₀ news)
    (turn : ∀ i t m₁ news₁ h tk o wr, i < n → J i m₁ news₁ → (∀ p ∈ o, ∀ q ∈ news₁, p.1 ≠ q.1) → (∀ b ∈ wr, ∃ x, (b, x) ∈ o) → Fr h₀ env.locals h (fun y => if y = x then some (.int (i : Int) t) else m₁ y) → News h₀ env.locals h (o ++ news₁) →
      wpAny (model prog w) A (execs body env) (LoopStepV h₀ env.locals wr o (J (i + 1)) { s with heap := h, toks := tk } (fun v s' => Q (.ret v) s') fun s' => Q .next s') E { s with heap := h, toks := tk })
    (done : ∀ m₁ news₁ h tk, J n m₁ news₁ → Fr h₀ env.locals h m₁ → News h₀ env.locals h news₁ → Q .next { s with heap := h, toks := tk }) :
    wpAny (model prog w) A (pyIter (.ref r)) (fun it s₂ => LoopAtV prog w A h₀ env x body Q E it s₂) E s := by
  refine wpAny_pyIter_range hr hsmall ?_
  have W : Walks prog w A s.heap.objs.size [s.heap.objs.size] [s.heap.objs.size] n (fun i v => i < n ∧ ∃ t, v = .int (0 + i * 1) t)
      (fun i h => IsRangeIter h s.heap.objs.size (0 + (i : Nat) * 1) ((n : Int) - (i : Nat)) 1) := (Walks.range hh _ 0 1 n).bound
  refine ⟨_, _, _, n, _, _, m₀, news, J, rfl, W, ?_, ?_, ?_, (by show IsRangeIter _ _ _ _ _; rw [hn]; simpa using Heap.get?_push_size _ rfl), F.push _, (fun p hp => ⟨Heap.get?_push_of_some _ (N p hp).1, (N p hp).2⟩), hj, ?_, ?_⟩
  · intro hm
    exact absurd F.ns.lt ((List.mem_singleton.mp hm) ▸ Nat.lt_irrefl _)
  · intro b hb
    rw [List.mem_singleton.mp hb]
    exact next_is_new F
  · intro p hp hI
    exact absurd (Heap.lt_size (N p hp).1) ((List.mem_singleton.mp hI) ▸ Nat.lt_irrefl _)
  · rintro i v m₁ news₁ s₁ own ⟨hh', tk', rfl⟩ hin ⟨_, t, rfl⟩ hJ hoff hown _ hmem hst' F₁ N₁
    have e1 : (0 : Int) + (i : Int) * 1 = (i : Int) := by omega
    rw [e1] at F₁
    refine turn i t m₁ news₁ hh' tk' own _ hin hJ (fun p hp q hq e => hoff q hq (e ▸ hown p hp)) (fun b hb => ?_) F₁ N₁
    rw [List.mem_singleton.mp hb]
    exact ⟨_, hmem _ (List.mem_singleton.mpr rfl) (next_is_new F) _ hst'⟩
  · rintro h' tk m' news' F' N' _ hJ
    exact done m' news' h' tk hJ F' N'
theorem range_small {r : Int} (h0 : 0 ≤ r) (h1 : r ≤ 20) : Builtin.Range.small 0 r 1 = true ∧ Builtin.Range.rangeSize 0 r 1 = (r.toNat : Int) := by
  obtain ⟨n, rfl⟩ : ∃ n : Nat, r = (n : Int) := ⟨r.toNat, by omega⟩
  have key : ∀ n : Nat, n < 21 → Builtin.Range.small 0 (n : Int) 1 = true ∧ Builtin.Range.rangeSize 0 (n : Int) 1 = (((n : Int).toNat : Nat) : Int) := by decide
  exact key n (by omega)
end
section
variable {prog : Program} {w : World} {h₀ h : Heap} {L lb dg dd ls lm le : Addr} {k : Nat} {Λ Λ' : List (Addr × Obj)} {lp : Addr} {oc : Obj} {us us' : List Value} {ns ns' : List Int} {nb nb' : Nat} {des : List DictEntry} {dn : Nat} {vS : List Value} {kS kM kX : Nat} {vP : List Value} {kP : Nat} {ss : List Str} {scs : List Sc}
/-- Drawing beans leaves the invariant. -/
theorem inv_bean (I : LInv prog w L lb dg dd ls lm le k Λ lp oc us ns nb des dn vS kS kM kX vP kP ss scs) (N : News h₀ L h Λ)
    (hΛ : ∀ p ∈ Λ, p.1 ∉ [L + 1, lb] → p ∈ Λ') (mc : (L + 1, oc) ∈ Λ') (mb : (lb, listOf us'.toArray nb') ∈ Λ')
    (hi : IntsAre us' ns') (hn : ns'.length ≤ 80) (hk : ∀ i ∈ ns', 0 ≤ i ∧ i < 37) :
    LInv prog w L lb dg dd ls lm le k Λ' lp oc us' ns' nb' des dn vS kS kM kX vP kP ss scs := by
  obtain ⟨c0, hc0, _⟩ := I.first
  have nd0 := I.nd 0 c0 hc0
  have q : ∀ (i : Nat) (b : Addr), ([lp, L + 1, lb, dg, dd, ls, lm, le, c0.a, c0.d, c0.e, c0.x] : List Addr)[i]? = some b → i = 0 ∨ 2 < i → b ∉ [L + 1, lb] := by
    intro i b hb hi hm
    have h1 : ∀ j, (j = 1 ∨ j = 2) → ([lp, L + 1, lb, dg, dd, ls, lm, le, c0.a, c0.d, c0.e, c0.x] : List Addr)[j]? ≠ some b := by
      intro j hj e
      rcases hi with rfl | hi
      · exact (ap nd0 0 j (by omega) hb e).ne rfl
      · exact (ap nd0 j i (by omega) e hb).ne rfl
    rcases List.mem_cons.mp hm with rfl | hm
    · exact h1 1 (.inl rfl) rfl
    · exact h1 2 (.inr rfl) (by rw [List.mem_singleton.mp hm]; rfl)
  have tupk : ∀ t vs, (t, tup vs) ∈ Λ → (t, tup vs) ∈ Λ' := fun t vs ht => hΛ _ ht fun hb => by
    simp only [List.mem_cons, List.not_mem_nil, or_false] at hb
    rcases hb with hb | hb
    · exact apart_tup N ht I.hd.c (notTup_cell I.hoc) hb
    · exact apart_tup N ht I.hd.b notTup_list hb
  exact {
    hd := ⟨mc, mb, hΛ _ I.hd.g (q 3 _ rfl (by omega)), hΛ _ I.hd.d (q 4 _ rfl (by omega)), hΛ _ I.hd.s (q 5 _ rfl (by omega)), hΛ _ I.hd.m (q 6 _ rfl (by omega)), hΛ _ I.hd.e (q 7 _ rfl (by omega)), hΛ _ I.hd.p (q 0 _ rfl (by omega))⟩
    hoc := I.hoc
    hi := hi
    hn := hn
    hk := hk
    g1 := I.g1
    g9 := I.g9
    hS := I.hS
    hP := I.hP
    hss := I.hss
    hsc := I.hsc
    first := I.first
    ok := fun j c hj => by
      have C := I.ok j c hj
      have nd : ([lp, L + 1, lb, dg, dd, ls, lm, le] ++ [c.a, c.d, c.e, c.x]).Nodup := I.nd j c hj
      have z : ∀ b ∈ [c.a, c.d, c.e, c.x], b ∉ [L + 1, lb] := fun b hb hm =>
        (List.nodup_append.mp nd).2.2 b (by simp only [List.mem_cons, List.not_mem_nil, or_false] at hm ⊢; rcases hm with h | h <;> simp [h]) b hb rfl
      exact { C with
        q := ⟨hΛ _ C.q.a (z _ (by simp)), hΛ _ C.q.d (z _ (by simp)), hΛ _ C.q.e (z _ (by simp)), hΛ _ C.q.x (z _ (by simp))⟩
        ents := fun nm v h => let ⟨u, a, b⟩ := C.ents nm v h; ⟨u, a, b.mono tupk fun _ _ h => h⟩ }
    nd := I.nd
    nd2 := I.nd2 }
theorem inv_bean2 {h' : Heap} {own : List (Addr × Obj)} (I : LInv prog w L lb dg dd ls lm le k Λ lp oc us ns nb des dn vS kS kM kX vP kP ss scs) (N : News h₀ L h Λ) (hown : off Λ [L + 1, lb] = own)
    (_NN : News h₀ L h' ((L + 1, oc) :: (lb, listOf us'.toArray nb') :: own)) (hi : IntsAre us' ns') (hn : ns'.length ≤ 80) (hk : ∀ i ∈ ns', 0 ≤ i ∧ i < 37) :
    LInv prog w L lb dg dd ls lm le k ((L + 1, oc) :: (lb, listOf us'.toArray nb') :: own) lp oc us' ns' nb' des dn vS kS kM kX vP kP ss scs :=
  inv_bean I N (fun p hp hb => List.mem_cons_of_mem _ (List.mem_cons_of_mem _ (hown ▸ mem_off.mpr ⟨hp, hb⟩))) (List.mem_cons_self ..) (List.mem_cons_of_mem _ (List.mem_cons_self ..)) hi hn hk
end
def StopP (p : Prop) : Prop := p
theorem stop_at {p : Prop} (h : StopP p) : p := h
theorem stop_go {p : Prop} (h : p) : StopP p := h
theorem lines_7 : True := by
  k_with "call type:range" => ((k_here; k_dflt (refine' range1_rows ?F_q9 ?N_q9 ?_; (case F_q9 => k_asm); (case N_q9 => k_asm); k_whole); intro h' tk' t1' u1' v1' rg' F' N' kp'; (try k_sweep)))
  k_with "pyIter ref" => ((k_here; (with_reducible show wpAny _ _ (pyIter (Value.ref _)) (fun it s₂ => LoopAtV _ _ _ _ _ _ _ _ _ it s₂) _ _); refine stop_at ?_))
  trivial
section
variable {prog : Program} {w : World} {h₀ : Heap} {L fa : Addr} {cd : Value} {mg mb : Str → Option Value} {mean : ExcName → Option Value} {E : Value → Shared → Prop} {s : Shared} {u : Str → Option Value} {Λ : List (Addr × Obj)} {Q : Flow → Shared → Prop}
  {lb dg dd ls lm le lp : Addr} {k : Nat} {oc : Obj} {us : List Value} {ns : List Int} {nb : Nat} {des : List DictEntry} {dn : Nat} {vS : List Value} {kS kM kX : Nat} {vP : List Value} {kP : Nat} {ss : List Str} {scs : List Sc}
theorem main_for (X : (hd.heap_39 w.params).In h₀) (T : Top hd.view_39 (looseW hd.view_39 [Str.ofString "GateloomError"]) mean mg mb h₀) (B : Below callerA h₀ [] h₀)
  (GL : Glob 0 mg mb (List.map itemOf (recsOf hd.view_39)) (scalarsOf [] ++ constsW hd.view_39) [] (namesW hd.view_39 [Str.ofString "GateloomError"]) h₀)
  (I : LInv prog w L lb dg dd ls lm le 0 Λ lp oc us ns nb des dn vS kS kM kX vP kP ss scs) (F : Fr h₀ L s.heap (base dg lm le lp u)) (N : News h₀ L s.heap Λ)
  (hE : PassesOwn (model prog w) (callerA.deeper (lawEnv L fa cd)) (lawEnv L fa cd) E)
  (hQ : ∀ k m' Λ' h' tk, k ≤ 10 → JInv prog w L lb dg dd ls lm le k m' Λ' → Fr h₀ L h' m' → News h₀ L h' Λ' → Q .next { s with heap := h', toks := tk }) :
  wpAny (model prog w) (callerA.deeper (lawEnv L fa cd)) (exec mainFor (lawEnv L fa cd)) Q E s := by
  have hoc := I.hoc
  have hi := I.hi
  have hn := I.hn
  have hk := I.hk
  obtain ⟨c0, hc0, _⟩ := I.first
  have q0 : Apart (L + 1) lb := ap (I.nd 0 c0 hc0) 1 2 (Nat.lt_succ_self 1) rfl rfl
  have N2 : News h₀ L s.heap ((L + 1, oc) :: (lb, listOf us.toArray nb) :: off Λ [L + 1, lb]) :=
    nc N I.hd.c (nc N I.hd.b fun p hp => N _ (mem_off.mp hp).1)
  have hoff : OwnOff (off Λ [L + 1, lb]) [L + 1, lb] := off_own
  have F2 := F
  rw [base_eq] at F2
  generalize hown : off Λ [L + 1, lb] = own at N2 hoff
  conv in mainFor => whnf
  refine For_invV h₀ (by rfl) (by rfl) ?_ (fun _ => rfl) hE
  unfold lawEnv
  conv in (occs := *) lawScope => all_goals whnf
  obtain ⟨hN, NΛ⟩ : ∃ h, News h₀ L h Λ ∧ True := ⟨_, N, trivial⟩
  clear F N
  replace NΛ := NΛ.1
  generalize hZ : News h₀ L hN Λ = ZN at NΛ
  k_steps
  refine stop_go ?_
  rename IsRange _ _ _ _ _ _ _ _ => rg
  rename Fr _ _ _ _ => FF
  rename News _ _ _ _ => NN
  have hr := range_small a1 (by omega)
  have FF' : Fr h₀ L _ (base dg lm le lp u) := FF
  have I2 := inv_bean2 I (hZ ▸ NΛ) hown NN (by assumption) (by assumption) (by assumption)
  refine iter_rangeJ (JInv prog w L lb dg dd ls lm le) rfl rg hr.1 hr.2 FF' NN ⟨_, _, _, _, _, _, _, _, _, _, _, _, _, _, _, I2, _, rfl⟩ ?_ ?_
  · intro i t m₁ news₁ h tk o wr hlt hJ ho hwr F₁ N₁
    obtain ⟨lp', oc', us', ns', nb', des', dn', vS', kS', kM', kX', vP', kP', ss', scs', I', u', rfl⟩ := hJ
    exact turn_all X T B GL (by omega) I' F₁ N₁ ho hwr
  · intro m₁ news₁ h tk hJ F₁ N₁
    exact hQ _ _ _ _ _ (by omega) hJ F₁ N₁
end
theorem news_drop1 {h₀ h : Heap} {L : Addr} {p : Addr × Obj} {l : List (Addr × Obj)} (N : News h₀ L h (p :: l)) : News h₀ L h l := fun r hr => N r (List.mem_cons_of_mem _ hr)
abbrev abc : List Str := [Str.ofString "a", Str.ofString "b", Str.ofString "c"]
def NmEl (h₀ : Heap) (L : Addr) (m : Str → Option Value) (I : Addr) (oI : Obj) (C : Addr) (oC : Obj) (D : Addr) (oD oc : Obj) (lb : Addr) (own : List (Addr × Obj)) (s₁ : Shared) (y : Value) (s₂ : Shared) : Prop :=
  ∃ nm t h' tk' us' ns' nb', y = .str nm t ∧ nm ∈ abc ∧ s₂ = { s₁ with heap := h', toks := tk' } ∧ Fr h₀ L h' m ∧ News h₀ L h' ((I, oI) :: (C, oC) :: (D, oD) :: (L + 1, oc) :: (lb, listOf us'.toArray nb') :: own) ∧ IntsAre us' ns' ∧ ns'.length ≤ 80 ∧ ∀ i ∈ ns', 0 ≤ i ∧ i < 37
theorem NmEl.intro {h₀ : Heap} {L : Addr} {m : Str → Option Value} {I : Addr} {oI : Obj} {C : Addr} {oC : Obj} {D : Addr} {oD oc : Obj} {lb : Addr} {own : List (Addr × Obj)} {s₁ : Shared} {nm : Str} {t : Tok} {h' : Heap} {tk' : Nat} {us' : List Value} {ns' : List Int} {nb' : Nat}
    (hnm : nm ∈ abc) (F : Fr h₀ L h' m) (N : News h₀ L h' ((I, oI) :: (C, oC) :: (D, oD) :: (L + 1, oc) :: (lb, listOf us'.toArray nb') :: own)) (hi : IntsAre us' ns') (hn : ns'.length ≤ 80) (hk : ∀ i ∈ ns', 0 ≤ i ∧ i < 37) :
    NmEl h₀ L m I oI C oC D oD oc lb own s₁ (.str nm t) { s₁ with heap := h', toks := tk' } := ⟨nm, t, h', tk', us', ns', nb', rfl, hnm, rfl, F, N, hi, hn, hk⟩
section
variable {prog : Program} {w : World} {A : Around} {h₀ : Heap} {L : Addr} {m : Str → Option Value} {env : Env} {elt : Expr} {x : Str} {scope : Scope} {cl : List (Str × Addr)} {s : Shared} {Fin : List Value → List (Addr × Obj) → Prop} {own : List (Addr × Obj)} {oc : Obj} {lb : Addr} {a : Int}
theorem off3_lb {I C D : Addr} {us us' : List Value} {nb nb' : Nat} (h : LCg.Off3 I C D ((L + 1, oc) :: (lb, listOf us.toArray nb) :: own)) : LCg.Off3 I C D ((L + 1, oc) :: (lb, listOf us'.toArray nb') :: own) := ⟨h.1, h.2.1, h.2.2⟩
theorem comp_names {us₀ : List Value} {ns₀ : List Int} {nb₀ : Nat} {n : Nat}
    (turn : ∀ k t I oI C oC D m₂ ys h tk (E' : Value → Shared → Prop) us ns nb, LCg.NsObj oC m₂ → m₂ x = some (.int k t) → Fr h₀ L h m → News h₀ L h ((I, oI) :: (C, oC) :: (D, LCg.lst ys) :: (L + 1, oc) :: (lb, listOf us.toArray nb) :: own) → LCg.Off3 I C D ((L + 1, oc) :: (lb, listOf us.toArray nb) :: own) → ((@Ne Nat I C) ∧ (@Ne Nat I D) ∧ (@Ne Nat C D)) →
      IntsAre us ns → ns.length ≤ 80 → (∀ i ∈ ns, 0 ≤ i ∧ i < 37) →
      wpAny (model prog w) A (eval elt (compEnvC scope cl C env)) (NmEl h₀ L m I oI C oC D (LCg.lst ys) oc lb own { s with heap := h, toks := tk }) E' { s with heap := h, toks := tk })
    (fin : ∀ ys nms us ns nb, StrsAre ys nms → nms.length = n → (∀ nm ∈ nms, nm ∈ abc) → IntsAre us ns → ns.length ≤ 80 → (∀ i ∈ ns, 0 ≤ i ∧ i < 37) → Fin ys ((L + 1, oc) :: (lb, listOf us.toArray nb) :: own))
    (hi : IntsAre us₀ ns₀) (hn : ns₀.length ≤ 80) (hk : ∀ i ∈ ns₀, 0 ≤ i ∧ i < 37) :
    LCg.CompRest prog w A h₀ L m env elt x scope cl s (fun _ => True) (fun i v => ∃ t, v = .int (a + (i : Int)) t) Fin n 0 [] ((L + 1, oc) :: (lb, listOf us₀.toArray nb₀) :: own) := by
  have key : ∀ (j i : Nat) (ys : List Value) (nms : List Str) (us : List Value) (ns : List Int) (nb : Nat), i + j = n → StrsAre ys nms → nms.length = i → (∀ nm ∈ nms, nm ∈ abc) → IntsAre us ns → ns.length ≤ 80 → (∀ i ∈ ns, 0 ≤ i ∧ i < 37) →
      LCg.CompRest prog w A h₀ L m env elt x scope cl s (fun _ => True) (fun i v => ∃ t, v = .int (a + (i : Int)) t) Fin j i ys ((L + 1, oc) :: (lb, listOf us.toArray nb) :: own) := by
    intro j
    induction j with
    | zero =>
      intro i ys nms us ns nb hij hS hl hm hi hn hk
      exact LCg.CompRest.zero (fin ys nms us ns nb hS (by omega) hm hi hn hk)
    | succ j ih =>
      intro i ys nms us ns nb hij hS hl hm hi hn hk
      refine LCg.CompRest.succ ?_
      intro v I oI C oC D m₂ h tk E' hv hC hx F N off ne
      obtain ⟨t, rfl⟩ := hv
      refine wpAny_mono (turn _ t I oI C oC D m₂ ys h tk E' us ns nb hC hx F N off ne hi hn hk) (fun y s₂ hq => ?_) fun _ _ e => e
      obtain ⟨nm, t', h', tk', us', ns', nb', rfl, hnm, rfl, F', N', hi', hn', hk'⟩ := hq
      refine ⟨h', tk', _, rfl, F', N', off3_lb off, trivial, ?_⟩
      refine ih (i + 1) _ (nms ++ [nm]) us' ns' nb' (by omega) (StrsAre.append' hS (.cons nm t' .nil)) (by rw [List.length_append, hl]; rfl) (fun z hz => ?_) hi' hn' hk'
      rcases List.mem_append.mp hz with hz | hz
      · exact hm z hz
      · rw [List.mem_singleton.mp hz]; exact hnm
  exact key n 0 [] [] us₀ ns₀ nb₀ (by omega) .nil rfl (fun _ h => nomatch h) hi hn hk
end
theorem off1_mem {D : Addr} : ∀ {l : List (Addr × Obj)}, LCg.Off1 D l → ∀ p ∈ l, p.1 ≠ D
  | [], _, _, h => nomatch h
  | _ :: _, x, p, h => by
    rcases List.mem_cons.mp h with rfl | h
    · exact x.1
    · exact off1_mem x.2 p h
theorem lines_8 : True := by
  k_with "CompSrc" => ((k_here; refine stop_at ?_))
  k_with "exec Assign cons ListComp" => ((k_here; k_dflt (refine LCg.Assign_ListComp_U (F₀ := by k_asm) (by rfl) (by with_unfolding_all rfl) (by with_unfolding_all rfl) (by decide) (by rfl) (by decide) (by rfl) (by rfl) (by rfl) ?_)))
  trivial
section
variable {prog : Program} {w : World} {h₀ : Heap} {L fa : Addr} {cd : Value} {mg mb : Str → Option Value} {mean : ExcName → Option Value} {E : Value → Shared → Prop} {Q : Flow → Shared → Prop} {s : Shared} {u : Str → Option Value} {own : List (Addr × Obj)}
  {lb dg lm le lp : Addr} {us vm : List Value} {nb kM : Nat} {ns : List Int} {oc : Obj} {st : Int} {tst : Tok}
theorem lap_pre (X : (hd.heap_39 w.params).In h₀) (T : Top hd.view_39 (looseW hd.view_39 [Str.ofString "GateloomError"]) mean mg mb h₀) (B : Below callerA h₀ [] h₀)
  (GL : Glob 0 mg mb (List.map itemOf (recsOf hd.view_39)) (scalarsOf [] ++ constsW hd.view_39) [] (namesW hd.view_39 [Str.ofString "GateloomError"]) h₀)
  (F : Fr h₀ L s.heap (fun y => if y = Str.ofString "lap" then some (.int st tst)
    else if y = Str.ofString "design" then some (.ref dg) else if y = Str.ofString "made" then some (.ref lm) else if y = Str.ofString "entered" then some (.ref le) else if y = Str.ofString "paths_x" then some (.ref lp) else u y))
  (N : News h₀ L s.heap ((L + 1, oc) :: (lb, listOf us.toArray nb) :: (lm, listOf vm.toArray kM) :: own))
  (hoff : OwnOff own [L + 1, lb, lm]) (q0 : Apart (L + 1) lb) (q1 : Apart (L + 1) lm) (q2 : Apart lb lm)
  (hoc : oc.data = .cell (some (.ref lb))) (hi : IntsAre us ns) (hn : ns.length ≤ 80) (hk : ∀ k ∈ ns, 0 ≤ k ∧ k < 37) (hvm : 1 ≤ vm.length ∧ vm.length ≤ 20)
  (hQ : ∀ (h' : Heap) (tk : Nat) (us' : List Value) (ns' : List Int) (nb' : Nat) (ab : Int) (tab : Tok) (ln : Addr) (ys : List Value) (nms : List Str) (c : Nat),
    Fr h₀ L h' (fun y => if y = Str.ofString "names" then some (.ref ln) else if y = Str.ofString "spot" then some (.int ab tab) else if y = Str.ofString "lap" then some (.int st tst)
      else if y = Str.ofString "design" then some (.ref dg) else if y = Str.ofString "made" then some (.ref lm) else if y = Str.ofString "entered" then some (.ref le) else if y = Str.ofString "paths_x" then some (.ref lp) else u y) →
    News h₀ L h' ((ln, listOf ys.toArray c) :: (L + 1, oc) :: (lb, listOf us'.toArray nb') :: (lm, listOf vm.toArray kM) :: own) →
    IntsAre us' ns' → ns'.length ≤ 80 → (∀ k ∈ ns', 0 ≤ k ∧ k < 37) → 0 ≤ ab → ab < vm.length → StrsAre ys nms → nms.length ≤ 5 → (∀ nm ∈ nms, nm ∈ abc) → (∀ p ∈ (L + 1, oc) :: (lb, listOf us'.toArray nb') :: (lm, listOf vm.toArray kM) :: own, p.1 ≠ ln) →
    wpAny (model prog w) (callerA.deeper (lawEnv L fa cd)) (execs (lapTurn.drop 2) (lawEnv L fa cd)) Q E { s with heap := h', toks := tk }) :
  wpAny (model prog w) (callerA.deeper (lawEnv L fa cd)) (execs lapTurn (lawEnv L fa cd)) Q E s := by
  refine execs_split (lapTurn.take 2) (lapTurn.drop 2) ?_
  generalize List.drop 2 lapTurn = rest at hQ ⊢
  conv in List.take 2 lapTurn => whnf
  unfold lawEnv at hQ ⊢
  conv in (occs := *) lawScope => all_goals whnf
  k_steps
  refine stop_go ?_
  rename IsRange _ _ _ _ _ _ _ _ => rg
  rename Fr _ _ _ _ => FF
  rename News _ _ _ _ => NN
  have hr := range_small a1 (by omega)
  refine LCg.CompSrc.range rfl FF NN rg hr.1 hr.2 (by rw [sizeLine_eq]; omega) ?_
  intro g
  refine comp_names ?turn ?fin (by assumption) (by assumption) (by assumption)
  case fin =>
    intro ys nms us' ns' nb' hS hl hm hi' hn' hk'
    intro D h' tk' F' N' o1
    show wpAny (model prog w) _ (execs [] _) _ E _
    refine wpAny_execs_nil ?_
    show wpAny (model prog w) _ (execs rest _) Q E _
    exact hQ h' tk' us' ns' nb' _ _ D ys nms _ F' N' hi' hn' hk' (by assumption) (by assumption) hS (by omega) hm (fun p hp => off1_mem o1 p hp)
  case turn =>
    clear FF NN rg hQ
    intro k t I oI C oC D m₂ ys h tk E' us ns nb hC hx F' N' off ne hi hn hk
    have z1 : Apart lb I := off.2.1.1
    have z2 : Apart lb C := off.2.1.2.1
    have z3 : Apart lb D := off.2.1.2.2
    clear off
    k_steps
    rename News _ _ _ _ => NN
    refine' NmEl.intro ?zm ?zF (news_drop1 NN) ?zi ?zn ?zk
    all_goals with_reducible assumption

end
section
variable {prog : Program} {w : World} {A : Around} {E : Value → Shared → Prop} {s : Shared} {env : Env} {h₀ : Heap} {x : Str} {body : List Stmt} {Q : Flow → Shared → Prop}
/-- A turn's end when the turn reads alone. -/
def ReadEnd (h₀ : Heap) (L : Addr) (news : List (Addr × Obj)) (P : (Str → Option Value) → Prop) (s₁ : Shared) (Q : Flow → Shared → Prop) (f : Flow) (s₂ : Shared) : Prop :=
  match f with
  | .ret v => Q (.ret v) s₂
  | .brk => Q .next s₂
  | _ => ∃ h' tk' m', s₂ = { s₁ with heap := h', toks := tk' } ∧ Fr h₀ L h' m' ∧ News h₀ L h' news ∧ P m'
theorem ReadEnd.next {L : Addr} {news : List (Addr × Obj)} {P : (Str → Option Value) → Prop} {s₁ : Shared} {h' : Heap} {tk' : Nat} {m' : Str → Option Value} (F : Fr h₀ L h' m') (N : News h₀ L h' news) (h : P m') : ReadEnd h₀ L news P s₁ Q .next { s₁ with heap := h', toks := tk' } := ⟨h', tk', m', rfl, F, N, h⟩
theorem ReadEnd.ret {L : Addr} {news : List (Addr × Obj)} {P : (Str → Option Value) → Prop} {s₁ s₂ : Shared} {v : Value} (h : Q (.ret v) s₂) : ReadEnd h₀ L news P s₁ Q (.ret v) s₂ := h
theorem iter_strsJ {l : Addr} {vs : List Value} {ss : List Str} {c : Nat} {m₀ : Str → Option Value} {news : List (Addr × Obj)} (P : Nat → (Str → Option Value) → Prop)
    (hh : A.handled = none) (hm : (l, listOf vs.toArray c) ∈ news) (hS : StrsAre vs ss) (F : Fr h₀ env.locals s.heap m₀) (N : News h₀ env.locals s.heap news) (hP : P 0 m₀)
    (turn : ∀ i t nm m₁ h tk I oI, ss[i]? = some nm → P i m₁ → (∀ q ∈ news, q.1 < I) → Fr h₀ env.locals h (fun y => if y = x then some (.str nm t) else m₁ y) → News h₀ env.locals h ((I, oI) :: news) →
      wpAny (model prog w) A (execs body env) (ReadEnd h₀ env.locals ((I, oI) :: news) (P (i + 1)) { s with heap := h, toks := tk } Q) E { s with heap := h, toks := tk })
    (done : ∀ m₁ h tk, P ss.length m₁ → Fr h₀ env.locals h m₁ → News h₀ env.locals h news → Q .next { s with heap := h, toks := tk }) :
    wpAny (model prog w) A (pyIter (.ref l)) (fun it s₂ => LoopAtV prog w A h₀ env x body Q E it s₂) E s := by
  have hls : s.heap.IsList l vs.toArray := ⟨_, (N _ hm).1, rfl, c, rfl⟩
  have hlt : l < s.heap.objs.size := Heap.lt_size (N _ hm).1
  have hne : l ≠ s.heap.objs.size := Nat.ne_of_lt hlt
  have hlen := strs_len hS
  refine wpAny_pyIter_list hls ?_
  have W := Walks.list (prog := prog) (w := w) hh s.heap.objs.size l hne vs.toArray
  have hsz : vs.toArray.size = ss.length := by simp [hlen]
  rw [hsz] at W
  refine ⟨_, _, _, ss.length, _, _, m₀, news, fun i m nx => nx = news ∧ P i m, rfl, W, ?_, ?_, ?_, ⟨⟨_, Heap.get?_push_size _ rfl, rfl, rfl⟩, hls.at fun o e => Heap.get?_push_of_some _ e⟩, F.push _, (fun p hp => ⟨Heap.get?_push_of_some _ (N p hp).1, (N p hp).2⟩), ⟨rfl, hP⟩, ?_, ?_⟩
  · intro hm'
    rcases List.mem_cons.mp hm' with e | hm'
    · exact absurd F.ns.lt (e ▸ Nat.lt_irrefl _)
    · exact (N _ hm).2.1 (List.mem_singleton.mp hm').symm
  · intro b hb
    rw [List.mem_singleton.mp hb]
    exact next_is_new F
  · intro p hp hI
    exact absurd (Heap.lt_size (N p hp).1) ((List.mem_singleton.mp hI) ▸ Nat.lt_irrefl _)
  · rintro i v m₁ news₁ s₁ own ⟨hh', tk', rfl⟩ hin hPv ⟨rfl, hJ⟩ hoff hown hget hmem hst' F₁ N₁
    obtain ⟨⟨oI, hoI, _⟩, _⟩ := id hst'
    have hio : (s.heap.objs.size, oI) ∈ own := hmem _ (List.mem_cons_self ..) (next_is_new F) _ hoI
    have hi' : i < vs.length := by omega
    obtain ⟨t, et⟩ := strs_at hS i hi'
    have hv : v = .str (ss.getD i default) t := by
      have hP' : vs[i]? = some v := by simpa using hPv
      rw [List.getElem?_eq_getElem hi', et] at hP'
      exact (Option.some.inj hP').symm
    subst hv
    have hnm : ss[i]? = some (ss.getD i default) := by rw [List.getD_eq_getElem?_getD, List.getElem?_eq_getElem hin]; rfl
    refine wpAny_mono (turn i t _ m₁ hh' tk' s.heap.objs.size oI hnm hJ (fun q hq => Heap.lt_size (N q hq).1) F₁ (news_one hio N₁)) (fun f s₂ p => ?_) fun _ _ e => e
    have fin : (∃ h' tk' m', s₂ = { s with heap := h', toks := tk' } ∧ Fr h₀ env.locals h' m' ∧ News h₀ env.locals h' ((s.heap.objs.size, oI) :: news₁) ∧ P (i + 1) m') → LoopStepU h₀ env.locals [s.heap.objs.size] own (fun m nx => nx = news₁ ∧ P (i + 1) m) { s with heap := hh', toks := tk' } .next s₂ := by
      rintro ⟨h', tk₂, m', e, F', N', hp⟩
      refine ⟨rfl, h', tk₂, m', news₁, e, F', fun p hp => ?_, hoff, rfl, hp⟩
      rcases List.mem_append.mp hp with hp | hp
      · rcases List.mem_cons.mp (hown p hp) with h1 | h1
        · have e2 : p.2 = oI := by
            have h4 := hget p hp
            rw [h1, hoI] at h4
            exact (Option.some.inj h4).symm
          rw [show p = (s.heap.objs.size, oI) from Prod.ext h1 e2]
          exact N' _ (List.mem_cons_self ..)
        · have h2 := List.mem_singleton.mp h1
          have e2 : p.2 = listOf vs.toArray c := by
            have h4 := hget p hp
            have h5 := (N₁ _ (List.mem_append_right _ hm)).1
            rw [h2, h5] at h4
            exact (Option.some.inj h4).symm
          rw [show p = (l, listOf vs.toArray c) from Prod.ext h2 e2]
          exact N' _ (List.mem_cons_of_mem _ hm)
      · exact N' _ (List.mem_cons_of_mem _ hp)
    cases f with
    | ret v => exact .ret p
    | brk => exact .brk p
    | next => exact .next (fin p)
    | cont => exact .cont (fin p)
  · rintro h' tk m' news' F' N' _ ⟨rfl, hJ⟩
    exact done m' h' tk hJ F' N'
end
section
variable {prog : Program} {w : World} {K : Type} [DecidableEq K] {knd : KeyKind prog w K} {h₀ : Heap} {L d : Addr} {A : Around} {E : Value → Shared → Prop} {s : Shared} {news : List (Addr × Obj)} {o : Obj} {kvs : List (K × Value)} {k : K} {key dflt : Value} {Q : Value → Shared → Prop}
theorem notInD (N : News h₀ L s.heap news) (hp : (d, o) ∈ news) (hd : o.IsDictOf knd kvs) (lo : (d == sysModules) = false) (hkey : knd.is k key = true) (b : Bool) (hb : (valueAt kvs k).isSome = b) (h : Q (.bool (!b)) { s with toks := s.toks + 1 }) :
    wpAny (model prog w) A (compareOp .NotIn key (.ref d)) Q E s := wpAny_notIn_of hkey lo (kda_dict N hp hd).mapOf (by rw [hb]; exact h)
theorem get2D (N : News h₀ L s.heap news) (hp : (d, o) ∈ news) (hd : o.IsDictOf knd kvs) (lo : (d == sysModules) = false) (hkey : knd.is k key = true) (h : Q ((valueAt kvs k).getD dflt) { s with toks := s.toks + 1 }) :
    wpAny (model prog w) A (call (.builtin "dict.get") [.ref d, key, dflt]) Q E s :=
  have hD := kda_dict N hp hd
  PySem.call_meetsIn PySem.F.slot_dict_get hD.typeIs PySem.F.entry_dict_get (PySem.F.args_dict_get_3 _ _ _) (meets_dict_get_default knd d hkey lo dflt) ⟨_, hD.mapOf, h⟩
end
def Rel (Λ : List (Addr × Obj)) (as : List Addr) (v u : Value) : Prop := (v = .none ∧ u = .none) ∨ Ent Λ as v u
def stepU (scs : List Sc) (u : Value) (nm : Str) : Value := match u with
  | .int j _ => (match scs[j.toNat]? with | some c => (valueAt c.kx nm).getD .none | none => .none)
  | _ => .none
def dueV (scs : List Sc) (u : Value) (nms : List Str) : Value := nms.foldl (stepU scs) u
theorem dueV_none {scs : List Sc} : ∀ nms : List Str, dueV scs .none nms = .none
  | [] => rfl
  | _ :: r => dueV_none r
theorem dueV_ref {scs : List Sc} {t : Addr} : ∀ {nms : List Str}, nms ≠ [] → dueV scs (.ref t) nms = .none
  | [], h => absurd rfl h
  | _ :: r, _ => dueV_none r
theorem dueV_take {scs : List Sc} {u : Value} {nms : List Str} {i : Nat} {nm : Str} (h : nms[i]? = some nm) : dueV scs u (nms.take (i + 1)) = stepU scs (dueV scs u (nms.take i)) nm := by
  unfold dueV
  rw [List.take_add_one, h]
  simp
theorem dueV_split {scs : List Sc} {u : Value} {nms : List Str} (i : Nat) : dueV scs u nms = dueV scs (dueV scs u (nms.take i)) (nms.drop i) := by
  unfold dueV
  rw [← List.foldl_append, List.take_append_drop]
theorem news_swap {h₀ h : Heap} {L : Addr} {p q : Addr × Obj} {l : List (Addr × Obj)} (N : News h₀ L h (p :: q :: l)) : News h₀ L h (q :: p :: l) := fun r hr => by
  rcases List.mem_cons.mp hr with rfl | hr
  · exact N _ (by simp)
  · rcases List.mem_cons.mp hr with rfl | hr
    · exact N _ (by simp)
    · exact N _ (List.mem_cons_of_mem _ (List.mem_cons_of_mem _ hr))
theorem news_dup {h₀ h : Heap} {L : Addr} {p : Addr × Obj} {l : List (Addr × Obj)} (N : News h₀ L h l) (hp : p ∈ l) : News h₀ L h (p :: l) := fun r hr => by
  rcases List.mem_cons.mp hr with rfl | hr
  · exact N _ hp
  · exact N _ hr
theorem stepU_int {scs : List Sc} {j : Nat} {tk : Tok} {c : Sc} {nm : Str} (hc : scs[j]? = some c) : stepU scs (.int (j : Int) tk) nm = (valueAt c.kx nm).getD .none := by
  unfold stepU
  simp only [Int.toNat_natCast, hc]
theorem as_get {scs : List Sc} {j : Nat} {a : Addr} (h : (scs.map (·.a))[j]? = some a) : ∃ c, scs[j]? = some c ∧ a = c.a := by
  rw [List.getElem?_map] at h
  cases e : scs[j]? with
  | none => rw [e] at h; cases h
  | some c => rw [e] at h; exact ⟨c, rfl, (Option.some.inj h).symm⟩
theorem key_none {c : Sc} {nm : Str} (hk : c.kx.map (·.1) = c.ke.map (·.1)) (h : (valueAt c.ke nm).isSome = false) : (valueAt c.kx nm).getD .none = .none := by
  have e := isSome_keys hk nm
  rw [h] at e
  cases e2 : valueAt c.kx nm with
  | none => rfl
  | some v => rw [e2] at e; cases e
section
variable {prog : Program} {w : World} {h₀ : Heap} {L : Addr} {A : Around} {E : Value → Shared → Prop} {Q : Value → Shared → Prop} {s : Shared} {news : List (Addr × Obj)} {t : Addr} {x y : Value} {u : Tok}
theorem isTup2 (N : News h₀ L s.heap news) (hm : (t, tup [x, y]) ∈ news) : IsTup s.heap t #[x, y] := ⟨_, (N _ hm).1, rfl, _, rfl⟩
theorem pair0 {value slice : PySem.Expr} (N : News h₀ L s.heap news) (hm : (t, tup [x, y]) ∈ news) (h : Q x s)
    (hs : subscripted slice false (.ref t) (.int 0 u) = operate [.ref t, .int 0 u] (getItem (.ref t) (.int 0 u)) := by with_unfolding_all rfl) (hg : ∀ r, letTemporaryGo value (.ref t) r = pure () := by intro _; with_unfolding_all rfl) :
    wpAny (model prog w) A (subscriptTail value slice (.ref t) (.int 0 u)) Q E s :=
  item_tuple (isTup2 N hm) (by decide) (by decide) (j := 0) (by rfl) rfl h hs hg
theorem pair1 {value slice : PySem.Expr} (N : News h₀ L s.heap news) (hm : (t, tup [x, y]) ∈ news) (h : Q y s)
    (hs : subscripted slice false (.ref t) (.int 1 u) = operate [.ref t, .int 1 u] (getItem (.ref t) (.int 1 u)) := by with_unfolding_all rfl) (hg : ∀ r, letTemporaryGo value (.ref t) r = pure () := by intro _; with_unfolding_all rfl) :
    wpAny (model prog w) A (subscriptTail value slice (.ref t) (.int 1 u)) Q E s :=
  item_tuple (isTup2 N hm) (by decide) (by decide) (j := 1) (by rfl) rfl h hs hg
end
theorem lines_9 : True := by
  k_with "exec For Name Name cons nil" => ((k_here; (rename Fr _ _ _ _ => lF'); (with_unfolding_all refine' For_invVF lF' ?k1_q9 ?k2_q9 ?_; (case k1_q9 => exact rfl); (case k2_q9 => exact rfl); k_whole)))
  k_with "compareOp NotIn" => ((k_here; (with_reducible show wpAny _ _ (compareOp _ (Value.str _ _) (Value.ref _)) _ _ _); k_dflt (first
      | (refine' notInD (knd := PySem.strKind _ _) ?N_q9 ?m_q9 ?d_q9 ?l_q9 (strKind_is _ _ _ _) false ?b_q9 ?_; (case N_q9 => k_asm); (case m_q9 => k_memK); (case d_q9 => k_asm); (case l_q9 => k_asm); (case b_q9 => with_reducible assumption); k_whole)
      | (refine' notInD (knd := PySem.strKind _ _) ?N_q9 ?m_q9 ?d_q9 ?l_q9 (strKind_is _ _ _ _) true ?b_q9 ?_; (case N_q9 => k_asm); (case m_q9 => k_memK); (case d_q9 => k_asm); (case l_q9 => k_asm); (case b_q9 => with_reducible assumption); k_whole))))
  k_with "compareOp NotIn str ref" => (walk_at "compareOp NotIn")
  k_with "subscriptTail" => ((k_here; (with_reducible show wpAny _ _ (subscriptTail _ _ (Value.ref _) (Value.int 0 _)) _ _ _); k_dflt (refine' pair0 ?N_q9 ?m_q9 ?_ ?s_q9 ?g_q9; (case N_q9 => k_asm); (case m_q9 => exact List.mem_cons_self ..); (case s_q9 => with_unfolding_all rfl); (case g_q9 => (intro _; with_unfolding_all rfl)); k_whole); (try dsimp only)))
  k_with "subscriptTail" => ((k_here; (with_reducible show wpAny _ _ (subscriptTail _ _ (Value.ref _) (Value.int 1 _)) _ _ _); k_dflt (refine' pair1 ?N_q9 ?m_q9 ?_ ?s_q9 ?g_q9; (case N_q9 => k_asm); (case m_q9 => exact List.mem_cons_self ..); (case s_q9 => with_unfolding_all rfl); (case g_q9 => (intro _; with_unfolding_all rfl)); k_whole); (try dsimp only)))
  trivial
section
variable {prog : Program} {w : World} {h₀ : Heap} {L fa : Addr} {cd : Value} {mg mb : Str → Option Value} {mean : ExcName → Option Value} {E : Value → Shared → Prop} {Q : Flow → Shared → Prop} {s : Shared} {u : Str → Option Value} {Λ big : List (Addr × Obj)}
  {lb dg dd ls lm le lp ln a d e : Addr} {k : Nat} {oc : Obj} {us : List Value} {ns : List Int} {nb : Nat} {des : List DictEntry} {dn : Nat} {vS : List Value} {kS kM kX : Nat} {vP : List Value} {kP : Nat} {ss : List Str} {scs : List Sc} {vm ys : List Value} {nms : List Str} {cc en : Nat} {es : List DictEntry} {ab st : Int} {tab tst : Tok} {pa : Str} {tpa : Tok} {num : Int} {tnum : Tok} {snt : Str} {tnt : Tok}
theorem lap_desc (X : (hd.heap_39 w.params).In h₀) (T : Top hd.view_39 (looseW hd.view_39 [Str.ofString "GateloomError"]) mean mg mb h₀) (B : Below callerA h₀ [] h₀)
  (GL : Glob 0 mg mb (List.map itemOf (recsOf hd.view_39)) (scalarsOf [] ++ constsW hd.view_39) [] (namesW hd.view_39 [Str.ofString "GateloomError"]) h₀)
  (F : Fr h₀ L s.heap (fun y => if y = Str.ofString "names" then some (.ref ln) else if y = Str.ofString "spot" then some (.int ab tab) else if y = Str.ofString "lap" then some (.int st tst)
      else if y = Str.ofString "design" then some (.ref dg) else if y = Str.ofString "made" then some (.ref lm) else if y = Str.ofString "entered" then some (.ref le) else if y = Str.ofString "paths_x" then some (.ref lp) else u y))
  (N : News h₀ L s.heap ((ln, listOf ys.toArray cc) :: (lm, listOf vm.toArray kM) :: (a, instObj 127 d) :: (d, dictOf es en) :: big))
  (hva : vm.toArray[ab.toNat]? = some (.ref a)) (hab : 0 ≤ ab ∧ ab < 20) (g9 : getL (Str.ofString "descend") es = some none) (hS : StrsAre ys nms)
  (hrel : ∀ t k, Ent ((t, tup [.str (Str.ofString "scope") k, .ref a]) :: big) (scs.map (·.a)) (.ref t) (.int ab tab))
  (hok : ∀ (j : Nat) (c : Sc), scs[j]? = some c → ScOk prog w big dg k (scs.map (·.a)) c)
  (hQ : ∀ v h' tk big', Fr h₀ L h' (fun y => if y = Str.ofString "found" then some v else if y = Str.ofString "names" then some (.ref ln) else if y = Str.ofString "spot" then some (.int ab tab) else if y = Str.ofString "lap" then some (.int st tst)
      else if y = Str.ofString "design" then some (.ref dg) else if y = Str.ofString "made" then some (.ref lm) else if y = Str.ofString "entered" then some (.ref le) else if y = Str.ofString "paths_x" then some (.ref lp) else u y) →
    News h₀ L h' ((ln, listOf ys.toArray cc) :: big') → (∀ p ∈ big, p ∈ big') → Rel big' (scs.map (·.a)) v (dueV scs (.int ab tab) nms) →
    wpAny (model prog w) (callerA.deeper (lawEnv L fa cd)) (execs (lapTurn.drop 3) (lawEnv L fa cd)) Q E { s with heap := h', toks := tk }) :
  wpAny (model prog w) (callerA.deeper (lawEnv L fa cd)) (execs (lapTurn.drop 2) (lawEnv L fa cd)) Q E s := by
  refine execs_split ((lapTurn.drop 2).take 1) (lapTurn.drop 3) ?_
  generalize List.drop 3 lapTurn = rest at hQ ⊢
  conv in List.take 1 (List.drop 2 lapTurn) => whnf
  unfold lawEnv at hQ ⊢
  conv in (occs := *) lawScope => all_goals whnf
  k_steps
  refine stop_go ?_
  rename Fr _ _ _ _ => FF
  rename News _ _ _ _ => NN
  rename_i tkD hD1 D' hD2 q1 q2 q3 hD3
  obtain ⟨k0, NN⟩ : ∃ k0, News _ _ _ ((D', tup [.str (Str.ofString "scope") k0, .ref a]) :: (ln, listOf ys.toArray cc) :: (lm, listOf vm.toArray kM) :: (a, instObj 127 d) :: (d, dictOf es en) :: big) := ⟨_, NN⟩
  have hm0 : (ln, listOf ys.toArray cc) ∈ ((D', tup [.str (Str.ofString "scope") k0, .ref a]) :: (ln, listOf ys.toArray cc) :: (lm, listOf vm.toArray kM) :: (a, instObj 127 d) :: (d, dictOf es en) :: big) := by simp
  have fin : ∀ (v : Value) (h' : Heap) (tk : Nat) (ext : List (Addr × Obj)), Fr h₀ L h' (fun y => if y = Str.ofString "found" then some v else if y = Str.ofString "names" then some (.ref ln) else if y = Str.ofString "spot" then some (.int ab tab) else if y = Str.ofString "lap" then some (.int st tst)
      else if y = Str.ofString "design" then some (.ref dg) else if y = Str.ofString "made" then some (.ref lm) else if y = Str.ofString "entered" then some (.ref le) else if y = Str.ofString "paths_x" then some (.ref lp) else u y) →
      News h₀ L h' (ext ++ (D', tup [.str (Str.ofString "scope") k0, .ref a]) :: (ln, listOf ys.toArray cc) :: (lm, listOf vm.toArray kM) :: (a, instObj 127 d) :: (d, dictOf es en) :: big) →
      Rel ((D', tup [.str (Str.ofString "scope") k0, .ref a]) :: big) (scs.map (·.a)) v (dueV scs (.int ab tab) nms) →
      wpAny (model prog w) (callerA.deeper (lawEnv L fa cd)) (execs rest (lawEnv L fa cd)) Q E { s with heap := h', toks := tk } := by
    intro v h' tk ext F9 N9 hR
    refine hQ v h' tk ((D', tup [.str (Str.ofString "scope") k0, .ref a]) :: big) F9 (fun p hp => N9 p (List.mem_append_right _ ?_)) (fun p hp => List.mem_cons_of_mem _ hp) hR
    simp only [List.mem_cons] at hp ⊢
    rcases hp with h | h | h <;> simp [h]
  refine iter_strsJ (fun i m => ∃ (te : Addr) (sv : Option Value) (R : Str → Option Value), m = (fun y => if y = Str.ofString "entry" then some (.ref te) else if y = Str.ofString "scope" then sv else R y) ∧ Ent ((D', tup [.str (Str.ofString "scope") k0, .ref a]) :: big) (scs.map (·.a)) (.ref te) (dueV scs (.int ab tab) (nms.take i))) rfl hm0 hS FF NN ⟨D', some (.ref a), _, rfl, hrel D' _⟩ ?turn ?done
  case done =>
    clear FF NN
    rintro m₁ h tk ⟨te, sv, R, rfl, hE⟩ F' N'
    k_steps
    show wpAny _ _ (execs [] _) _ E _
    refine wpAny_execs_nil ?_
    show wpAny _ _ (execs rest _) Q E _
    rename Fr _ _ _ _ => F9
    rename News _ _ _ _ => N9
    rw [List.take_length] at hE
    exact fin _ _ _ [] F9 N9 (.inr hE)
  case turn =>
    clear FF NN
    rintro i t nm m₁ h tk I oI hnm ⟨te, sv, R, rfl, hE⟩ hlt F' N'
    have hil : i < nms.length := (List.getElem?_eq_some_iff.mp hnm).1
    rcases hE with ⟨t1, t', k1, k', n, i1, j1, e1, e2, m1, m2⟩ | ⟨t1, k1, j, a1, tk1, e1, e2, e3, m1⟩
    · cases e1
      have hm1 : (te, tup [.str (Str.ofString "sig") k1, .int n i1]) ∈ ((I, oI) :: (D', tup [.str (Str.ofString "scope") k0, .ref a]) :: (ln, listOf ys.toArray cc) :: (lm, listOf vm.toArray kM) :: (a, instObj 127 d) :: (d, dictOf es en) :: big) := by
        rcases List.mem_cons.mp m1 with h | h
        · rw [h]; simp
        · simp only [List.mem_cons]; exact .inr (.inr (.inr (.inr (.inr (.inr h)))))
      replace N' := news_dup N' hm1
      k_steps
      show ReadEnd _ _ _ _ _ _ (.ret _) _
      refine ReadEnd.ret ?_
      k_steps
      show wpAny _ _ (execs [] _) _ E _
      refine wpAny_execs_nil ?_
      show wpAny _ _ (execs rest _) Q E _
      rename Fr _ _ _ _ => F9
      rename News _ _ _ _ => N9
      refine fin _ _ _ [(te, tup [.str (Str.ofString "sig") k1, .int n i1]), (I, oI)] F9 N9 (.inl ⟨rfl, ?_⟩)
      rw [dueV_split i, e2]
      exact dueV_ref fun h => by
        have := congrArg List.length h
        rw [List.length_drop, List.length_nil] at this
        omega
    · cases e1
      obtain ⟨c', hc', rfl⟩ := as_get e3
      have C := hok j c' hc'
      have hm1 : (te, tup [.str (Str.ofString "scope") k1, .ref c'.a]) ∈ ((I, oI) :: (D', tup [.str (Str.ofString "scope") k0, .ref a]) :: (ln, listOf ys.toArray cc) :: (lm, listOf vm.toArray kM) :: (a, instObj 127 d) :: (d, dictOf es en) :: big) := by
        rcases List.mem_cons.mp m1 with h | h
        · rw [h]; simp
        · simp only [List.mem_cons]; exact .inr (.inr (.inr (.inr (.inr (.inr h)))))
      have inb : ∀ p ∈ big, p ∈ ((I, oI) :: (D', tup [.str (Str.ofString "scope") k0, .ref a]) :: (ln, listOf ys.toArray cc) :: (lm, listOf vm.toArray kM) :: (a, instObj 127 d) :: (d, dictOf es en) :: big) := fun p h => by
        simp only [List.mem_cons]; exact .inr (.inr (.inr (.inr (.inr (.inr h)))))
      have N0 := N'
      have Nq : News _ _ h ((te, tup [.str (Str.ofString "scope") k1, .ref c'.a]) :: (c'.a, instObj 127 c'.d) :: (c'.d, dictOf c'.es c'.en) :: (c'.e, c'.oe) :: (I, oI) :: (D', tup [.str (Str.ofString "scope") k0, .ref a]) :: (ln, listOf ys.toArray cc) :: (lm, listOf vm.toArray kM) :: (a, instObj 127 d) :: (d, dictOf es en) :: big) :=
        news_dup (news_dup (news_dup (news_dup N' (inb _ C.q.e)) (List.mem_cons_of_mem _ (inb _ C.q.d))) (List.mem_cons_of_mem _ (List.mem_cons_of_mem _ (inb _ C.q.a)))) (List.mem_cons_of_mem _ (List.mem_cons_of_mem _ (List.mem_cons_of_mem _ hm1)))
      clear N' N0
      have g4 := C.f.g4
      have de := C.de
      have lo1 := C.le1
      cases hv : valueAt c'.ke nm with
      | none =>
        have hb : (valueAt c'.ke nm).isSome = false := by rw [hv]; rfl
        k_steps
        show ReadEnd _ _ _ _ _ _ (.ret _) _
        refine ReadEnd.ret ?_
        k_steps
        show wpAny _ _ (execs [] _) _ E _
        refine wpAny_execs_nil ?_
        show wpAny _ _ (execs rest _) Q E _
        rename Fr _ _ _ _ => F9
        rename News _ _ _ _ => N9
        refine fin _ _ _ [(te, tup [.str (Str.ofString "scope") k1, .ref c'.a]), (c'.a, instObj 127 c'.d), (c'.d, dictOf c'.es c'.en), (c'.e, c'.oe), (I, oI)] F9 N9 (.inl ⟨rfl, ?_⟩)
        rw [dueV_split (i + 1), dueV_take hnm, e2, stepU_int hc', key_none C.keys hb]
        exact dueV_none _
      | some v =>
        have hb : (valueAt c'.ke nm).isSome = true := by rw [hv]; rfl
        obtain ⟨u', hu', hE'⟩ := C.ents nm v hv
        obtain ⟨t2, rfl⟩ : ∃ t2, v = .ref t2 := by
          rcases hE' with ⟨t1, _, _, _, _, _, _, e, _⟩ | ⟨t1, _, _, _, _, e, _⟩ <;> exact ⟨_, e⟩
        k_steps
        show ReadEnd _ _ _ _ _ _ .next _
        rename Fr _ _ _ _ => F9
        rename News _ _ _ _ => N9
        refine ReadEnd.next F9 (fun p hp => N9 p (List.mem_cons_of_mem _ (List.mem_cons_of_mem _ (List.mem_cons_of_mem _ (List.mem_cons_of_mem _ hp))))) ⟨t2, _, _, rfl, ?_⟩
        rw [dueV_take hnm, e2, stepU_int hc', hu']
        exact hE'.mono (fun _ _ h => List.mem_cons_of_mem _ h) fun _ _ h => h

end
def dueM (u v : Value) (dg lm le lp : Addr) (U : Str → Option Value) : Str → Option Value := fun y =>
  if y = Str.ofString "due" then some u else if y = Str.ofString "found" then some v else if y = Str.ofString "design" then some (.ref dg) else if y = Str.ofString "made" then some (.ref lm) else if y = Str.ofString "entered" then some (.ref le) else if y = Str.ofString "paths_x" then some (.ref lp) else U y
theorem due_of {h₀ h : Heap} {L dg lm le lp : Addr} {u v : Value} {m : Str → Option Value} (F : Fr h₀ L h m) (h5 : m (Str.ofString "due") = some u) (h6 : m (Str.ofString "found") = some v) (h1 : m (Str.ofString "design") = some (.ref dg)) (h2 : m (Str.ofString "made") = some (.ref lm)) (h3 : m (Str.ofString "entered") = some (.ref le)) (h4 : m (Str.ofString "paths_x") = some (.ref lp)) :
    Fr h₀ L h (dueM u v dg lm le lp m) := by
  have e : dueM u v dg lm le lp m = m := by
    funext y
    unfold dueM
    split
    · rename_i e; rw [e, h5]
    · split
      · rename_i e; rw [e, h6]
      · split
        · rename_i e; rw [e, h1]
        · split
          · rename_i e; rw [e, h2]
          · split
            · rename_i e; rw [e, h3]
            · split
              · rename_i e; rw [e, h4]
              · rfl
  rw [e]; exact F
def DueOk (Λ : List (Addr × Obj)) (n : Nat) (u : Value) : Prop := u = .none ∨ (∃ (t' : Addr) (k : Tok) (z : Int) (j : Tok), u = .ref t' ∧ (t', tup [.str (Str.ofString "sig") k, .int z j]) ∈ Λ) ∨ ∃ (j : Nat) (tk : Tok), u = .int (j : Int) tk ∧ j < n
theorem Ent.due {Λ : List (Addr × Obj)} {scs : List Sc} {v u : Value} (h : Ent Λ (scs.map (·.a)) v u) : DueOk Λ scs.length u := by
  rcases h with ⟨t, t', k, k', n, i, j, e1, e2, m1, m2⟩ | ⟨t, k, j, a, tk, e1, e2, e3, m⟩
  · exact .inr (.inl ⟨t', k', n, j, e2, m2⟩)
  · exact .inr (.inr ⟨j, tk, e2, by have := (List.getElem?_eq_some_iff.mp e3).1; simpa using this⟩)
theorem step_due {prog : Program} {w : World} {Λ : List (Addr × Obj)} {dg : Addr} {k : Nat} {scs : List Sc} {c : Sc} (C : ScOk prog w Λ dg k (scs.map (·.a)) c) (nm : Str) : DueOk Λ scs.length ((valueAt c.kx nm).getD .none) := by
  cases e : valueAt c.kx nm with
  | none => exact .inl rfl
  | some u =>
    have h1 : (valueAt c.ke nm).isSome = true := by rw [← isSome_keys C.keys nm, e]; rfl
    obtain ⟨v, hv⟩ := Option.isSome_iff_exists.mp h1
    obtain ⟨u', hu', hE⟩ := C.ents nm v hv
    rw [e] at hu'
    cases hu'
    exact hE.due
theorem lines_10 : True := by
  k_with "exec For Name Name cons nil" => ((k_here; k_dflt (refine For_invV _ (by rfl) (by rfl) ?_ (fun _ => rfl) (by with_unfolding_all assumption))))
  k_with "getMethod ref" => ((k_here; (with_reducible show wpAny _ _ (getMethod (Value.ref _) (Str.ofString "get") _) _ _ _); k_dflt (refine' kdl_method (knd := PySem.strKind _ _) PySem.F.slot_dict_get PySem.F.type_dict_get ?N_q9 ?m_q9 ?d_q9 ?_; (case N_q9 => k_asm); (case m_q9 => k_memK); (case d_q9 => with_reducible assumption); k_whole)))
  k_with "call builtin:dict.get" => ((k_here; k_dflt (refine' get2D (knd := PySem.strKind _ _) ?N_q9 ?m_q9 ?d_q9 ?l_q9 (strKind_is _ _ _ _) ?_; (case N_q9 => k_asm); (case m_q9 => k_memK); (case d_q9 => with_reducible assumption); (case l_q9 => with_reducible assumption); k_whole)))
  trivial
section
variable {prog : Program} {w : World} {h₀ : Heap} {L fa : Addr} {cd : Value} {mg mb : Str → Option Value} {mean : ExcName → Option Value} {E : Value → Shared → Prop} {Q : Flow → Shared → Prop} {s : Shared} {u : Str → Option Value} {big : List (Addr × Obj)}
  {dg lm le lp ln : Addr} {k : Nat} {kM kX : Nat} {scs : List Sc} {vm vx ys : List Value} {nms : List Str} {cc : Nat} {ab st : Int} {tab tst : Tok} {v : Value}
theorem lap_due (X : (hd.heap_39 w.params).In h₀) (T : Top hd.view_39 (looseW hd.view_39 [Str.ofString "GateloomError"]) mean mg mb h₀) (B : Below callerA h₀ [] h₀)
  (GL : Glob 0 mg mb (List.map itemOf (recsOf hd.view_39)) (scalarsOf [] ++ constsW hd.view_39) [] (namesW hd.view_39 [Str.ofString "GateloomError"]) h₀)
  (F : Fr h₀ L s.heap (fun y => if y = Str.ofString "found" then some v else if y = Str.ofString "names" then some (.ref ln) else if y = Str.ofString "spot" then some (.int ab tab) else if y = Str.ofString "lap" then some (.int st tst)
      else if y = Str.ofString "design" then some (.ref dg) else if y = Str.ofString "made" then some (.ref lm) else if y = Str.ofString "entered" then some (.ref le) else if y = Str.ofString "paths_x" then some (.ref lp) else u y))
  (N : News h₀ L s.heap ((ln, listOf ys.toArray cc) :: (le, listOf vx.toArray kX) :: (lm, listOf vm.toArray kM) :: big))
  (hab : DueOk big scs.length (.int ab tab)) (hS : StrsAre ys nms) (hlen : scs.length ≤ 20)
  (evm : vm = scs.map fun c => Value.ref c.a) (evx : vx = scs.map fun c => Value.ref c.x)
  (hok : ∀ (j : Nat) (c : Sc), scs[j]? = some c → ScOk prog w big dg k (scs.map (·.a)) c)
  (hrel : Rel big (scs.map (·.a)) v (dueV scs (.int ab tab) nms))
  (hE : PassesOwn (model prog w) (callerA.deeper (lawEnv L fa cd)) (lawEnv L fa cd) E)
  (hQ : ∀ (u' : Str → Option Value) h' tk, Fr h₀ L h' (base dg lm le lp u') → News h₀ L h' big → Q .next { s with heap := h', toks := tk }) :
  wpAny (model prog w) (callerA.deeper (lawEnv L fa cd)) (execs (lapTurn.drop 3) (lawEnv L fa cd)) Q E s := by
  conv in List.drop 3 lapTurn => whnf
  unfold lawEnv
  conv in (occs := *) lawScope => all_goals whnf
  k_steps
  refine stop_go ?_
  rename Fr _ _ _ _ => FF
  rename News _ _ _ _ => NN
  refine iter_strsJ (fun i m => ∃ U : Str → Option Value, m = (fun y => if y = Str.ofString "due" then some (dueV scs (.int ab tab) (nms.take i)) else if y = Str.ofString "found" then some v else if y = Str.ofString "design" then some (.ref dg) else if y = Str.ofString "made" then some (.ref lm) else if y = Str.ofString "entered" then some (.ref le) else if y = Str.ofString "paths_x" then some (.ref lp) else U y) ∧ DueOk big scs.length (dueV scs (.int ab tab) (nms.take i))) rfl (List.mem_cons_self ..) hS (due_of (u := .int ab tab) (v := v) (dg := dg) (lm := lm) (le := le) (lp := lp) FF rfl rfl rfl rfl rfl rfl) NN ⟨_, rfl, hab⟩ ?turn ?done
  case turn =>
    clear FF NN
    rintro i t nm m₁ h tk I oI hnm ⟨U, rfl, hD⟩ hlt F' N'
    have hst := dueV_take (scs := scs) (u := .int ab tab) hnm
    generalize dueV scs (.int ab tab) (nms.take i) = du at F' hD hst
    rcases hD with rfl | ⟨t', k', z, j', rfl, m1⟩ | ⟨j, tkj, rfl, hj⟩
    · k_steps
      rename Fr _ _ _ _ => F9
      rename News _ _ _ _ => N9
      have e9 : dueV scs (.int ab tab) (nms.take (i + 1)) = .none := hst
      exact ReadEnd.next (due_of (u := .none) (v := v) (dg := dg) (lm := lm) (le := le) (lp := lp) F9 rfl rfl rfl rfl rfl rfl) (N9) ⟨_, by rw [e9]; rfl, .inl e9⟩
    · have hm1 : (t', tup [.str (Str.ofString "sig") k', .int z j']) ∈ ((I, oI) :: (ln, listOf ys.toArray cc) :: (le, listOf vx.toArray kX) :: (lm, listOf vm.toArray kM) :: big) := by
        simp only [List.mem_cons]; exact .inr (.inr (.inr (.inr m1)))
      replace N' := news_dup N' hm1
      k_steps
      rename Fr _ _ _ _ => F9
      rename News _ _ _ _ => N9
      have e9 : dueV scs (.int ab tab) (nms.take (i + 1)) = .none := hst
      exact ReadEnd.next (due_of (u := .none) (v := v) (dg := dg) (lm := lm) (le := le) (lp := lp) F9 rfl rfl rfl rfl rfl rfl) (news_drop1 N9) ⟨_, by rw [e9]; rfl, .inl e9⟩
    · obtain ⟨c', hc'⟩ : ∃ c', scs[j]? = some c' := ⟨_, List.getElem?_eq_getElem hj⟩
      have C := hok j c' hc'
      have hvx : vx.toArray[(j : Int).toNat]? = some (.ref c'.x) := by rw [evx, List.getElem?_toArray, Int.toNat_natCast, List.getElem?_map, hc']; rfl
      have hx1 : (c'.x, c'.ox) ∈ ((I, oI) :: (ln, listOf ys.toArray cc) :: (le, listOf vx.toArray kX) :: (lm, listOf vm.toArray kM) :: big) := by
        simp only [List.mem_cons]; exact .inr (.inr (.inr (.inr C.q.x)))
      replace N' := news_dup N' hx1
      have dx := C.dx
      have lx1 := C.lx1
      k_steps
      rename Fr _ _ _ _ => F9
      rename News _ _ _ _ => N9
      have e9 : dueV scs (.int ab tab) (nms.take (i + 1)) = (valueAt c'.kx nm).getD .none := hst.trans (stepU_int hc')
      exact ReadEnd.next (due_of (u := (valueAt c'.kx nm).getD .none) (v := v) (dg := dg) (lm := lm) (le := le) (lp := lp) F9 rfl rfl rfl rfl rfl rfl) (news_drop1 N9) ⟨_, by rw [e9]; rfl, by rw [e9]; exact step_due C nm⟩
  case done =>
    clear FF NN
    rintro m₁ h tk ⟨U, rfl, hD⟩ F' N'
    rw [List.take_length] at F' hD
    generalize dueV scs (.int ab tab) nms = du at F' hD hrel
    rcases hrel with ⟨rfl, rfl⟩ | ⟨t1, t', k1, k', n, i1, j1, rfl, rfl, m1, m2⟩ | ⟨t1, k1, j, a1, tk1, rfl, rfl, e3, m1⟩
    · k_steps
      rename Fr _ _ _ _ => F9
      rename News _ _ _ _ => N9
      exact hQ _ _ _ (base_of (dg := dg) (lm := lm) (le := le) (lp := lp) F9 rfl rfl rfl rfl) (fun p hp => N9 p (by (repeat (first | exact hp | apply List.mem_cons_of_mem))))
    · have hm1 : (t1, tup [.str (Str.ofString "sig") k1, .int n i1]) ∈ ((ln, listOf ys.toArray cc) :: (le, listOf vx.toArray kX) :: (lm, listOf vm.toArray kM) :: big) := by
        simp only [List.mem_cons]; exact .inr (.inr (.inr m1))
      have hm2 : (t', tup [.str (Str.ofString "sig") k', .int n j1]) ∈ ((t1, tup [.str (Str.ofString "sig") k1, .int n i1]) :: (ln, listOf ys.toArray cc) :: (le, listOf vx.toArray kX) :: (lm, listOf vm.toArray kM) :: big) := by
        simp only [List.mem_cons]; exact .inr (.inr (.inr (.inr m2)))
      replace N' := news_dup (news_dup N' hm1) hm2
      k_steps
      rename Fr _ _ _ _ => F9
      rename News _ _ _ _ => N9
      exact hQ _ _ _ (base_of (dg := dg) (lm := lm) (le := le) (lp := lp) F9 rfl rfl rfl rfl) (fun p hp => N9 p (by (repeat (first | exact hp | apply List.mem_cons_of_mem))))
    · obtain ⟨c', hc', rfl⟩ := as_get e3
      have C := hok j c' hc'
      have g5 := C.f.g5
      have hvm : vm.toArray[(j : Int).toNat]? = some (.ref c'.a) := by rw [evm, List.getElem?_toArray, Int.toNat_natCast, List.getElem?_map, hc']; rfl
      have inb : ∀ p ∈ big, p ∈ ((ln, listOf ys.toArray cc) :: (le, listOf vx.toArray kX) :: (lm, listOf vm.toArray kM) :: big) := fun p h => by
        simp only [List.mem_cons]; exact .inr (.inr (.inr h))
      have Nq : News h₀ L h ((t1, tup [.str (Str.ofString "scope") k1, .ref c'.a]) :: (c'.a, instObj 127 c'.d) :: (c'.d, dictOf c'.es c'.en) :: (ln, listOf ys.toArray cc) :: (le, listOf vx.toArray kX) :: (lm, listOf vm.toArray kM) :: big) :=
        news_dup (news_dup (news_dup N' (inb _ C.q.d)) (List.mem_cons_of_mem _ (inb _ C.q.a))) (List.mem_cons_of_mem _ (List.mem_cons_of_mem _ (inb _ m1)))
      clear N'
      have hj : j < scs.length := (List.getElem?_eq_some_iff.mp hc').1
      k_steps
      rename Fr _ _ _ _ => F9
      rename News _ _ _ _ => N9
      exact hQ _ _ _ (base_of (dg := dg) (lm := lm) (le := le) (lp := lp) F9 rfl rfl rfl rfl) (fun p hp => N9 p (by (repeat (first | exact hp | apply List.mem_cons_of_mem))))

end
section
variable {prog : Program} {w : World} {h₀ : Heap} {L fa : Addr} {cd : Value} {mg mb : Str → Option Value} {mean : ExcName → Option Value} {E : Value → Shared → Prop} {s : Shared} {u : Str → Option Value} {o Λ Λ' : List (Addr × Obj)} {wr : List Addr} {Qr : Value → Shared → Prop} {Qb : Shared → Prop}
  {lb dg dd ls lm le lp : Addr} {k : Nat} {oc : Obj} {us : List Value} {ns : List Int} {nb : Nat} {des : List DictEntry} {dn : Nat} {vS : List Value} {kS kM kX : Nat} {vP : List Value} {kP : Nat} {ss : List Str} {scs : List Sc} {st : Int} {tst : Tok} {as : List Addr} {c : Sc}
theorem ScOk.sub (C : ScOk prog w Λ dg k as c) (h : ∀ p ∈ Λ, p ∈ Λ') : ScOk prog w Λ' dg k as c :=
  { C with
    q := ⟨h _ C.q.a, h _ C.q.d, h _ C.q.e, h _ C.q.x⟩
    ents := fun nm v hv => let ⟨u, a, b⟩ := C.ents nm v hv; ⟨u, a, b.mono (fun _ _ z => h _ z) fun _ _ z => z⟩ }
theorem lap_all (X : (hd.heap_39 w.params).In h₀) (T : Top hd.view_39 (looseW hd.view_39 [Str.ofString "GateloomError"]) mean mg mb h₀) (B : Below callerA h₀ [] h₀)
  (GL : Glob 0 mg mb (List.map itemOf (recsOf hd.view_39)) (scalarsOf [] ++ constsW hd.view_39) [] (namesW hd.view_39 [Str.ofString "GateloomError"]) h₀)
  (hk10 : k ≤ 10) (I : LInv prog w L lb dg dd ls lm le k Λ lp oc us ns nb des dn vS kS kM kX vP kP ss scs)
  (hE : PassesOwn (model prog w) (callerA.deeper (lawEnv L fa cd)) (lawEnv L fa cd) E)
  (F : Fr h₀ L s.heap (fun y => if y = Str.ofString "lap" then some (.int st tst) else base dg lm le lp u y)) (N : News h₀ L s.heap (o ++ Λ))
  (ho : ∀ p ∈ o, ∀ q ∈ Λ, p.1 ≠ q.1) (hwr : ∀ b ∈ wr, ∃ x, (b, x) ∈ o) :
  wpAny (model prog w) (callerA.deeper (lawEnv L fa cd)) (execs lapTurn (lawEnv L fa cd)) (LoopStepV h₀ L wr o (JInv prog w L lb dg dd ls lm le k) s Qr Qb) E s := by
  obtain ⟨c0, hc0, _⟩ := I.first
  have nd0 := I.nd 0 c0 hc0
  have hsc := I.hsc
  have hlen : 1 ≤ scs.length := (List.getElem?_eq_some_iff.mp hc0).1
  have NΛ : News h₀ L s.heap Λ := fun p hp => N p (List.mem_append_right _ hp)
  have N3 : News h₀ L s.heap ((L + 1, oc) :: (lb, listOf us.toArray nb) :: (lm, listOf (scs.map fun c => Value.ref c.a).toArray kM) :: off (o ++ Λ) [L + 1, lb, lm]) :=
    nc NΛ I.hd.c (nc NΛ I.hd.b (nc NΛ I.hd.m fun p hp => N _ (mem_off.mp hp).1))
  refine lap_pre X T B GL F N3 off_own (ap nd0 1 2 (by decide) rfl rfl) (ap nd0 1 6 (by decide) rfl rfl) (ap nd0 2 6 (by decide) rfl rfl) I.hoc I.hi I.hn I.hk ⟨by rw [List.length_map]; omega, by rw [List.length_map]; omega⟩ ?_
  intro h1 tk1 us' ns' nb' ab tab ln ys nms c5 F1 N1 hi' hn' hk' ha0 ha1 hS hl hm hne
  generalize hB : ((L + 1, oc) :: (lb, listOf us'.toArray nb') :: (lm, listOf (scs.map fun c => Value.ref c.a).toArray kM) :: off (o ++ Λ) [L + 1, lb, lm]) = big at N1 hne
  have inB : ∀ p ∈ Λ, p.1 ∉ [L + 1, lb] → p ∈ big := fun p hp hn => by
    rw [← hB]
    by_cases e : p.1 = lm
    · have e1 := (NΛ _ I.hd.m).1
      have e2 := (NΛ p hp).1
      rw [e, e1] at e2
      rw [show p = (lm, listOf (scs.map fun c => Value.ref c.a).toArray kM) from Prod.ext e (Option.some.inj e2).symm]
      simp
    · refine List.mem_cons_of_mem _ (List.mem_cons_of_mem _ (List.mem_cons_of_mem _ (mem_off.mpr ⟨List.mem_append_right _ hp, fun hm => ?_⟩)))
      simp only [List.mem_cons, List.not_mem_nil, or_false] at hm hn
      rcases hm with h | h | h
      · exact hn (.inl h)
      · exact hn (.inr h)
      · exact e h
  have mc : (L + 1, oc) ∈ big := by rw [← hB]; simp
  have mb' : (lb, listOf us'.toArray nb') ∈ big := by rw [← hB]; simp
  have ob : ∀ p ∈ o, p ∈ big := fun p hp => by
    rw [← hB]
    refine List.mem_cons_of_mem _ (List.mem_cons_of_mem _ (List.mem_cons_of_mem _ (mem_off.mpr ⟨List.mem_append_left _ hp, fun hm => ?_⟩)))
    simp only [List.mem_cons, List.not_mem_nil, or_false] at hm
    rcases hm with h | h | h
    · exact ho p hp _ I.hd.c h
    · exact ho p hp _ I.hd.b h
    · exact ho p hp _ I.hd.m h
  have I1 := inv_bean I NΛ inB mc mb' hi' hn' hk'
  rw [List.length_map] at ha1
  have hi1 : ab.toNat < scs.length := by omega
  obtain ⟨c, hc⟩ : ∃ c, scs[ab.toNat]? = some c := ⟨_, List.getElem?_eq_getElem hi1⟩
  have C := I1.ok _ c hc
  have hva : (scs.map fun c => Value.ref c.a).toArray[ab.toNat]? = some (.ref c.a) := by rw [List.getElem?_toArray, List.getElem?_map, hc]; rfl
  have Nd : News h₀ L h1 ((ln, listOf ys.toArray c5) :: (lm, listOf (scs.map fun c => Value.ref c.a).toArray kM) :: (c.a, instObj 127 c.d) :: (c.d, dictOf c.es c.en) :: big) :=
    nc N1 (List.mem_cons_self ..) (nc N1 (List.mem_cons_of_mem _ I1.hd.m) (nc N1 (List.mem_cons_of_mem _ C.q.a) (nc N1 (List.mem_cons_of_mem _ C.q.d) fun p hp => N1 _ (List.mem_cons_of_mem _ hp))))
  have eab : ((ab.toNat : Nat) : Int) = ab := by omega
  refine lap_desc (scs := scs) (k := k) X T B GL F1 Nd hva ⟨ha0, by omega⟩ C.f.g9 hS (fun t k1 => .inr ⟨t, k1, ab.toNat, c.a, tab, rfl, by rw [eab], by rw [List.getElem?_map, hc]; rfl, List.mem_cons_self ..⟩) I1.ok ?_
  intro v h2 tk2 big' F2 N2 hsub hR
  have Nu : News h₀ L h2 ((ln, listOf ys.toArray c5) :: (le, listOf (scs.map fun c => Value.ref c.x).toArray kX) :: (lm, listOf (scs.map fun c => Value.ref c.a).toArray kM) :: big') :=
    nc N2 (List.mem_cons_self ..) (nc N2 (List.mem_cons_of_mem _ (hsub _ I1.hd.e)) (nc N2 (List.mem_cons_of_mem _ (hsub _ I1.hd.m)) fun p hp => N2 _ (List.mem_cons_of_mem _ hp)))
  refine lap_due (scs := scs) (k := k) X T B GL F2 Nu (.inr (.inr ⟨ab.toNat, tab, by rw [eab], hi1⟩)) hS (by omega) rfl rfl (fun j c hj => (I1.ok j c hj).sub hsub) hR hE ?_
  intro u' h3 tk3 F3 N3'
  have wroff : ∀ p ∈ Λ, p.1 ∉ wr := fun p hp hw => by
    obtain ⟨x, hx⟩ := hwr _ hw
    exact ho _ hx p hp rfl
  have I2 := inv_bean2 (h' := h3) (us' := us') (ns' := ns') (nb' := nb') I NΛ rfl (fun p hp => by
    simp only [List.mem_cons] at hp
    rcases hp with rfl | rfl | hp
    · exact N3' _ (hsub _ mc)
    · exact N3' _ (hsub _ mb')
    · exact N3' _ (hsub _ (inB p (mem_off.mp hp).1 (mem_off.mp hp).2))) hi' hn' hk'
  refine LoopStepV.next (.intro F3 (fun p hp => ?_) (fun p hp => ?_) ⟨_, _, _, _, _, _, _, _, _, _, _, _, _, _, _, I2, _, rfl⟩)
  · rcases List.mem_append.mp hp with hp | hp
    · exact N3' _ (hsub _ (ob p hp))
    · simp only [List.mem_cons] at hp
      rcases hp with rfl | rfl | hp
      · exact N3' _ (hsub _ mc)
      · exact N3' _ (hsub _ mb')
      · exact N3' _ (hsub _ (inB p (mem_off.mp hp).1 (mem_off.mp hp).2))
  · simp only [List.mem_cons] at hp
    rcases hp with rfl | rfl | hp
    · exact wroff _ I.hd.c
    · exact (wroff _ I.hd.b : lb ∉ wr)
    · exact wroff _ (mem_off.mp hp).1
end
section
variable {prog : Program} {w : World} {h₀ : Heap} {L fa : Addr} {cd : Value} {mg mb : Str → Option Value} {mean : ExcName → Option Value} {E : Value → Shared → Prop} {s : Shared} {u : Str → Option Value} {Λ : List (Addr × Obj)} {Q : Flow → Shared → Prop}
  {lb dg dd ls lm le lp : Addr} {k : Nat} {oc : Obj} {us : List Value} {ns : List Int} {nb : Nat} {des : List DictEntry} {dn : Nat} {vS : List Value} {kS kM kX : Nat} {vP : List Value} {kP : Nat} {ss : List Str} {scs : List Sc}
theorem lap_for (X : (hd.heap_39 w.params).In h₀) (T : Top hd.view_39 (looseW hd.view_39 [Str.ofString "GateloomError"]) mean mg mb h₀) (B : Below callerA h₀ [] h₀)
  (GL : Glob 0 mg mb (List.map itemOf (recsOf hd.view_39)) (scalarsOf [] ++ constsW hd.view_39) [] (namesW hd.view_39 [Str.ofString "GateloomError"]) h₀)
  (hk10 : k ≤ 10) (I : LInv prog w L lb dg dd ls lm le k Λ lp oc us ns nb des dn vS kS kM kX vP kP ss scs) (F : Fr h₀ L s.heap (base dg lm le lp u)) (N : News h₀ L s.heap Λ)
  (hE : PassesOwn (model prog w) (callerA.deeper (lawEnv L fa cd)) (lawEnv L fa cd) E)
  (hQ : ∀ m' Λ' h' tk, Fr h₀ L h' m' → News h₀ L h' Λ' → Q .next { s with heap := h', toks := tk }) :
  wpAny (model prog w) (callerA.deeper (lawEnv L fa cd)) (exec lapFor (lawEnv L fa cd)) Q E s := by
  have hoc := I.hoc
  have hi := I.hi
  have hn := I.hn
  have hk := I.hk
  obtain ⟨c0, hc0, _⟩ := I.first
  have q0 : Apart (L + 1) lb := ap (I.nd 0 c0 hc0) 1 2 (Nat.lt_succ_self 1) rfl rfl
  have N2 : News h₀ L s.heap ((L + 1, oc) :: (lb, listOf us.toArray nb) :: off Λ [L + 1, lb]) :=
    nc N I.hd.c (nc N I.hd.b fun p hp => N _ (mem_off.mp hp).1)
  have hoff : OwnOff (off Λ [L + 1, lb]) [L + 1, lb] := off_own
  have F2 := F
  rw [base_eq] at F2
  generalize hown : off Λ [L + 1, lb] = own at N2 hoff
  conv in lapFor => whnf
  refine For_invV h₀ (by rfl) (by rfl) ?_ (fun _ => rfl) hE
  unfold lawEnv
  conv in (occs := *) lawScope => all_goals whnf
  obtain ⟨hN, NΛ⟩ : ∃ h, News h₀ L h Λ ∧ True := ⟨_, N, trivial⟩
  clear F N
  replace NΛ := NΛ.1
  generalize hZ : News h₀ L hN Λ = ZN at NΛ
  k_steps
  refine stop_go ?_
  rename IsRange _ _ _ _ _ _ _ _ => rg
  rename Fr _ _ _ _ => FF
  rename News _ _ _ _ => NN
  have hr := range_small (r := 1 + _) (Int.add_nonneg (by decide) a1) (by omega)
  have FF' : Fr h₀ L _ (base dg lm le lp u) := FF
  have I2 := inv_bean2 I (hZ ▸ NΛ) hown NN (by assumption) (by assumption) (by assumption)
  refine iter_rangeJ (fun _ => JInv prog w L lb dg dd ls lm le k) rfl rg hr.1 hr.2 FF' NN ⟨_, _, _, _, _, _, _, _, _, _, _, _, _, _, _, I2, _, rfl⟩ ?_ ?_
  · intro i t m₁ news₁ h tk o wr hlt hJ ho hwr F₁ N₁
    obtain ⟨lp', oc', us', ns', nb', des', dn', vS', kS', kM', kX', vP', kP', ss', scs', I', u', rfl⟩ := hJ
    exact lap_all X T B GL hk10 I' hE F₁ N₁ ho hwr
  · intro m₁ news₁ h tk hJ F₁ N₁
    exact hQ _ _ _ _ F₁ N₁
end
section
variable {prog : Program} {w : World} {h₀ : Heap} {L fa : Addr} {cd : Value} {mg mb : Str → Option Value} {mean : ExcName → Option Value} {E : Value → Shared → Prop} {s : Shared} {u : Str → Option Value} {Λ : List (Addr × Obj)} {Q : Flow → Shared → Prop}
  {lb dg dd ls lm le lp : Addr} {k : Nat} {oc : Obj} {us : List Value} {ns : List Int} {nb : Nat} {des : List DictEntry} {dn : Nat} {vS : List Value} {kS kM kX : Nat} {vP : List Value} {kP : Nat} {ss : List Str} {scs : List Sc}
theorem law_if (X : (hd.heap_39 w.params).In h₀) (T : Top hd.view_39 (looseW hd.view_39 [Str.ofString "GateloomError"]) mean mg mb h₀) (B : Below callerA h₀ [] h₀)
  (GL : Glob 0 mg mb (List.map itemOf (recsOf hd.view_39)) (scalarsOf [] ++ constsW hd.view_39) [] (namesW hd.view_39 [Str.ofString "GateloomError"]) h₀)
  (hk10 : k ≤ 10) (I : LInv prog w L lb dg dd ls lm le k Λ lp oc us ns nb des dn vS kS kM kX vP kP ss scs) (F : Fr h₀ L s.heap (base dg lm le lp u)) (N : News h₀ L s.heap Λ)
  (hQ : ∀ u' h' tk, Fr h₀ L h' (base dg lm le lp u') → News h₀ L h' Λ → wpAny (model prog w) (callerA.deeper (lawEnv L fa cd)) (execs (lawBody.drop 7) (lawEnv L fa cd)) Q E { s with heap := h', toks := tk }) :
  wpAny (model prog w) (callerA.deeper (lawEnv L fa cd)) (execs (lawBody.drop 6) (lawEnv L fa cd)) Q E s := by
  obtain ⟨c0, hc0, n0⟩ := I.first
  have C := I.ok 0 c0 hc0
  have hsc := I.hsc
  have g1 := I.g1
  have g5 := C.f.g5
  rw [n0] at g5
  have hS := I.hS
  have hP := I.hP
  have hv0 : (scs.map fun c => Value.ref c.a).toArray[(0 : Int).toNat]? = some (.ref c0.a) := by
    have e : (0 : Int).toNat = 0 := rfl
    rw [e, List.getElem?_toArray, List.getElem?_map, hc0]; rfl
  have N2 : News h₀ L s.heap ((dg, instObj 190 dd) :: (dd, dictOf des dn) :: (ls, listOf vS.toArray kS) :: (lp, listOf vP.toArray kP) :: (lm, listOf (scs.map fun c => Value.ref c.a).toArray kM) :: (c0.a, instObj 127 c0.d) :: (c0.d, dictOf c0.es c0.en) :: Λ) :=
    nc N I.hd.g (nc N I.hd.d (nc N I.hd.s (nc N I.hd.p (nc N I.hd.m (nc N C.q.a (nc N C.q.d N))))))
  have F2 := F
  rw [base_eq] at F2
  generalize (scs.map fun c => Value.ref c.a) = vm at hv0 N2
  clear F N
  refine execs_split ((lawBody.drop 6).take 1) (lawBody.drop 7) ?_
  generalize List.drop 7 lawBody = rest at hQ ⊢
  conv in List.take 1 (List.drop 6 lawBody) => whnf
  unfold lawEnv at hQ ⊢
  conv in (occs := *) lawScope => all_goals whnf
  k_steps
  show wpAny _ _ (execs [] _) _ E _
  refine wpAny_execs_nil ?_
  show wpAny _ _ (execs rest _) Q E _
  rename Fr _ _ _ _ => F9
  rename News _ _ _ _ => N9
  exact hQ _ _ _ (base_of (dg := dg) (lm := lm) (le := le) (lp := lp) F9 rfl rfl rfl rfl) (fun p hp => N9 p (by (repeat (first | exact hp | apply List.mem_cons_of_mem))))
theorem law_tail (X : (hd.heap_39 w.params).In h₀) (T : Top hd.view_39 (looseW hd.view_39 [Str.ofString "GateloomError"]) mean mg mb h₀) (B : Below callerA h₀ [] h₀)
  (GL : Glob 0 mg mb (List.map itemOf (recsOf hd.view_39)) (scalarsOf [] ++ constsW hd.view_39) [] (namesW hd.view_39 [Str.ofString "GateloomError"]) h₀)
  (hk10 : k ≤ 10) (I : LInv prog w L lb dg dd ls lm le k Λ lp oc us ns nb des dn vS kS kM kX vP kP ss scs) (F : Fr h₀ L s.heap (base dg lm le lp u)) (N : News h₀ L s.heap Λ)
  (hE : PassesOwn (model prog w) (callerA.deeper (lawEnv L fa cd)) (lawEnv L fa cd) E)
  (hQ : ∀ m' Λ' h' tk, Fr h₀ L h' m' → News h₀ L h' Λ' → Q (.ret (.bool true)) { s with heap := h', toks := tk }) :
  wpAny (model prog w) (callerA.deeper (lawEnv L fa cd)) (execs (lawBody.drop 6) (lawEnv L fa cd)) Q E s := by
  refine law_if X T B GL hk10 I F N ?_
  intro u' h' tk F' N'
  have e : List.drop 7 lawBody = lapFor :: List.drop 8 lawBody := by rfl
  rw [e]
  refine wpAny_execs_cons ?_
  refine lap_for X T B GL hk10 I F' N' hE ?_
  intro m' Λ' h2 tk2 F2 N2
  clear F N F' N'
  show wpAny (model prog w) _ (execs (List.drop 8 lawBody) _) Q E _
  conv in List.drop 8 lawBody => whnf
  unfold lawEnv
  conv in (occs := *) lawScope => all_goals whnf
  k_steps
  exact hQ _ _ _ _ F2 N2
theorem law_rest (X : (hd.heap_39 w.params).In h₀) (T : Top hd.view_39 (looseW hd.view_39 [Str.ofString "GateloomError"]) mean mg mb h₀) (B : Below callerA h₀ [] h₀)
  (GL : Glob 0 mg mb (List.map itemOf (recsOf hd.view_39)) (scalarsOf [] ++ constsW hd.view_39) [] (namesW hd.view_39 [Str.ofString "GateloomError"]) h₀)
  (I : LInv prog w L lb dg dd ls lm le 0 Λ lp oc us ns nb des dn vS kS kM kX vP kP ss scs) (F : Fr h₀ L s.heap (base dg lm le lp u)) (N : News h₀ L s.heap Λ)
  (hE : PassesOwn (model prog w) (callerA.deeper (lawEnv L fa cd)) (lawEnv L fa cd) E)
  (hQ : ∀ m' Λ' h' tk, Fr h₀ L h' m' → News h₀ L h' Λ' → Q (.ret (.bool true)) { s with heap := h', toks := tk }) :
  wpAny (model prog w) (callerA.deeper (lawEnv L fa cd)) (exec mainFor (lawEnv L fa cd)) (fun f s' => match f with | .next => wpAny (model prog w) (callerA.deeper (lawEnv L fa cd)) (execs (lawBody.drop 6) (lawEnv L fa cd)) Q E s' | f => Q f s') E s := by
  refine main_for X T B GL I F N hE ?_
  intro k m' Λ' h' tk hk10 hJ F' N'
  obtain ⟨lp', oc', us', ns', nb', des', dn', vS', kS', kM', kX', vP', kP', ss', scs', I', u', rfl⟩ := hJ
  exact law_tail X T B GL hk10 I' F' N' hE fun m2 Λ2 h2 tk2 F2 N2 => hQ _ _ _ _ F2 N2
end
theorem pw_cons {a b : Nat} {l : List Nat} (h : a < b) (t : (b :: l).Pairwise (fun x y => x < y)) : (a :: b :: l).Pairwise (fun x y => x < y) :=
  List.Pairwise.cons (fun _ hx => (List.mem_cons.mp hx).elim (fun e => e ▸ h) fun hx => Nat.lt_trans h ((List.pairwise_cons.mp t).1 _ hx)) t
theorem nodup_pick {c : List Nat} (h : c.Pairwise (fun x y => x < y)) : ∀ {js : List Nat}, js.Nodup → (∀ i ∈ js, i < c.length) → (js.map fun i => c.getD i 0).Nodup
  | [], _, _ => List.nodup_nil
  | i :: js, hn, hi => by
    rw [List.nodup_cons] at hn
    rw [List.map_cons, List.nodup_cons]
    refine ⟨fun hm => ?_, nodup_pick h hn.2 fun j hj => hi j (List.mem_cons_of_mem _ hj)⟩
    obtain ⟨j, hj, e⟩ := List.mem_map.mp hm
    have h1 := hi i (List.mem_cons_self ..)
    have h2 := hi j (List.mem_cons_of_mem _ hj)
    rw [List.getD_eq_getElem?_getD, List.getD_eq_getElem?_getD, List.getElem?_eq_getElem h1, List.getElem?_eq_getElem h2] at e
    have e' : c[j] = c[i] := e
    rcases Nat.lt_trichotomy i j with q | q | q
    · exact absurd e' (Nat.ne_of_gt (List.pairwise_iff_getElem.mp h i j h1 h2 q))
    · exact hn.1 (q ▸ hj)
    · exact absurd e' (Nat.ne_of_lt (List.pairwise_iff_getElem.mp h j i h2 h1 q))
theorem nd_chain {l1 lb dd dg ls d a e lm lp x le : Nat} (h1 : l1 < lb) (h2 : lb < dd) (h3 : dd < dg) (h4 : dg < ls) (h5 : ls < d) (h6 : d < a) (h7 : a < e) (h8 : e < lm) (h9 : lm < lp) (h10 : lp < x) (h11 : x < le) :
    List.Nodup [lp, l1, lb, dg, dd, ls, lm, le, a, d, e, x] :=
  nodup_pick (c := [l1, lb, dd, dg, ls, d, a, e, lm, lp, x, le]) (pw_cons h1 (pw_cons h2 (pw_cons h3 (pw_cons h4 (pw_cons h5 (pw_cons h6 (pw_cons h7 (pw_cons h8 (pw_cons h9 (pw_cons h10 (pw_cons h11 (List.pairwise_singleton _ _))))))))))))
    (js := [9, 0, 1, 3, 2, 4, 8, 11, 6, 5, 7, 10]) (by decide) (fun i hi => Nat.lt_of_lt_of_le (show i < 12 from (by decide : ∀ j ∈ [9, 0, 1, 3, 2, 4, 8, 11, 6, 5, 7, 10], j < 12) i hi) (Nat.le_refl _))
theorem off_two {a b dd dg ls : Nat} {o p : Obj} (h1 : LtH a dd) (h2 : LtH b dd) (z1 : LtH dd dg) (z2 : LtH dg ls) : OwnOff [(a, o), (b, p)] [dg, dd, ls] := by
  have h1 : @LT.lt Nat _ a dd := h1
  have h2 : @LT.lt Nat _ b dd := h2
  have z1 : @LT.lt Nat _ dd dg := z1
  have z2 : @LT.lt Nat _ dg ls := z2
  intro q hq c hc
  have hx : @LT.lt Nat _ q.1 dd := by
    simp only [List.mem_cons, List.not_mem_nil, or_false] at hq
    rcases hq with rfl | rfl <;> assumption
  simp only [List.mem_cons, List.not_mem_nil, or_false] at hc
  rcases hc with rfl | rfl | rfl
  · exact Nat.ne_of_lt (Nat.lt_trans hx z1)
  · exact Nat.ne_of_lt hx
  · exact Nat.ne_of_lt (Nat.lt_trans hx (Nat.lt_trans z1 z2))

section
variable {prog : Program} {w : World} {h₀ : Heap} {L fa : Addr} {cd : Value} {mg mb : Str → Option Value} {mean : ExcName → Option Value} {E : Value → Shared → Prop} {Q : Value → Shared → Prop} {s : Shared} {m : Str → Option Value} {own : List (Addr × Obj)}
  {dd dg ls : Addr} {des : List DictEntry} {dn k : Nat} {t1 t2 : Tok}
theorem design_new
  (X : (hd.heap_39 w.params).In h₀) (T : Top hd.view_39 (looseW hd.view_39 [Str.ofString "GateloomError"]) mean mg mb h₀) (B : Below callerA h₀ [] h₀)
  (GL : Glob 0 mg mb (List.map itemOf (recsOf hd.view_39)) (scalarsOf [] ++ constsW hd.view_39) [] (namesW hd.view_39 [Str.ofString "GateloomError"]) h₀)
  (F : Fr h₀ L s.heap m) (N : News h₀ L s.heap own)
  (h : ∀ h' tk dd dg ls des n k, Fr h₀ L h' m → News h₀ L h' ((dg, instObj 190 dd) :: (dd, dictOf des n) :: (ls, listOf #[] k) :: own) → (∀ p ∈ own, @LT.lt Nat _ p.1 dd) → @LT.lt Nat _ dd dg → @LT.lt Nat _ dg ls →
    getL (Str.ofString "scopes") des = some (some (.ref ls)) → getL (Str.ofString "add_scope") des = some none → Q (.ref dg) { s with heap := h', toks := tk }) :
  wpAny (model prog w) (callerA.deeper (lawEnv L fa cd)) (call (.ref 190) []) Q E s := by
  k_with "execs cons" => ((with_reducible show wpAny _ _ (execs (Stmt.Assign [PySem.Expr.Attribute (PySem.Expr.Name _ _) _ _] (PySem.Expr.List [] _) _ :: _) _) _ _ _); k_dflt (refine' set_list ?F_q9 ?X_q9 ?N_q9 ?c_q9 ?z_q9 ?off_q9 ?ht_q9 ?hl_q9 ?e_q9 ?hz_q9 ?hself_q9 ?_ ?hs_q9; (case F_q9 => k_asm); (case X_q9 => k_asm); (case N_q9 => k_asm); (case c_q9 => exact cls190); (case z_q9 => k_ne); (case off_q9 => k_all); (case ht_q9 => k_is); (case hl_q9 => exact rfl); (case e_q9 => (intro kt l; k_put)); (case hz_q9 => (intro kt l; exact Nat.le_of_ble_eq_true rfl)); (case hself_q9 => (intro Q' s' F h; exact nameX_L F rfl h)); (case hs_q9 => rfl); k_whole); intro h' tk' kt' l' F' N' lt'; (clear lt'); (replace N' := drp3 N'); (try k_sweep))
  k_with "execs cons" => ((with_reducible show wpAny _ _ (execs (Stmt.Assign [PySem.Expr.Attribute (PySem.Expr.Name _ _) _ _] (PySem.Expr.List [] _) _ :: [_, _, _, _]) _) _ _ _); k_dflt (refine' set_list ?F_q9 ?X_q9 ?N_q9 ?c_q9 ?z_q9 ?off_q9 ?ht_q9 ?hl_q9 ?e_q9 ?hz_q9 ?hself_q9 ?_ ?hs_q9; (case F_q9 => k_asm); (case X_q9 => k_asm); (case N_q9 => k_asm); (case c_q9 => exact cls190); (case z_q9 => k_ne); (case off_q9 => k_all); (case ht_q9 => k_is); (case hl_q9 => exact rfl); (case e_q9 => (intro kt l; k_put)); (case hz_q9 => (intro kt l; exact Nat.le_of_ble_eq_true rfl)); (case hself_q9 => (intro Q' s' F h; exact nameX_L F rfl h)); (case hs_q9 => rfl); k_whole); intro h' tk' kt' l' F' N' lt'; (k_lt lt'); (try k_sweep))
  unfold lawEnv
  conv in (occs := *) lawScope => all_goals whnf
  k_steps
  rename News _ _ _ _ => NN
  rename Fr _ _ _ _ => FF
  refine' h _ _ _ _ _ _ _ _ FF (nc NN ?m1 (nc NN ?m2 (nc NN ?m3 ?N))) ?o ?l1 ?l2 ?g1 ?g9
  case m1 => k_memK
  case m2 => k_memK
  case g1 => rfl
  case g9 => rfl
  case m3 => k_memK
  case N => (intro p hp; refine NN p ?_; (repeat (first | exact hp | apply List.mem_cons_of_mem)))
  case o => with_reducible assumption
  case l1 => show LtH _ _; with_reducible assumption
  case l2 => show LtH _ _; with_reducible assumption
theorem top_new
  (X : (hd.heap_39 w.params).In h₀) (T : Top hd.view_39 (looseW hd.view_39 [Str.ofString "GateloomError"]) mean mg mb h₀) (B : Below callerA h₀ [] h₀)
  (GL : Glob 0 mg mb (List.map itemOf (recsOf hd.view_39)) (scalarsOf [] ++ constsW hd.view_39) [] (namesW hd.view_39 [Str.ofString "GateloomError"]) h₀)
  (F : Fr h₀ L s.heap m) (N : News h₀ L s.heap ((dg, instObj 190 dd) :: (dd, dictOf des dn) :: (ls, listOf #[] k) :: own))
  (hoff : OwnOff own [dg, dd, ls]) (z1 : LtH dd dg) (z2 : LtH dg ls) (g1 : getL (Str.ofString "scopes") des = some (some (.ref ls))) (g9 : getL (Str.ofString "add_scope") des = some none)
  (h : ∀ h' tk a d e es en oe k' t3 t4 t5 tt snt, Fr h₀ L h' m → News h₀ L h' ((a, instObj 127 d) :: (d, dictOf es en) :: (e, oe) :: (dg, instObj 190 dd) :: (dd, dictOf des dn) :: (ls, listOf #[.str (Str.ofString "top") t3] k') :: own) →
    (∀ p ∈ (dg, instObj 190 dd) :: (dd, dictOf des dn) :: (ls, listOf #[] k) :: own, @LT.lt Nat _ p.1 d) → @LT.lt Nat _ d a → @LT.lt Nat _ a e → oe.IsDictOf (PySem.strKind prog w) [] → (e == sysModules) = false → ScF dg e es (Str.ofString "top") t4 0 t5 snt tt →
    Q (.ref a) { s with heap := h', toks := tk }) :
  wpAny (model prog w) (callerA.deeper (lawEnv L fa cd)) (call (.ref 127) [.ref dg, .str (Str.ofString "top") t1, .none, .str (Str.ofString "module") t2]) Q E s := by
  unfold lawEnv
  conv in (occs := *) lawScope => all_goals whnf
  k_steps
  rename News _ _ _ _ => NN
  rename Fr _ _ _ _ => FF
  refine' h _ _ _ _ _ _ _ _ _ _ _ _ _ _ FF (nc NN ?m1 (nc NN ?m2 (nc NN ?m3 (nc NN ?m4 (nc NN ?m5 (nc NN ?m6 ?N)))))) (kst_ltOf ?o) ?l1 ?l2 ?de ?le ?f
  case m1 => k_memK
  case m2 => k_memK
  case f => constructor <;> rfl
  case m3 => k_memK
  case m4 => k_memK
  case m5 => k_memK
  case m6 => k_memK
  case N => (intro p hp; refine NN p ?_; (repeat (first | exact hp | apply List.mem_cons_of_mem)))
  case o => walk_at "t_lt"
  case l1 => show LtH _ _; with_reducible assumption
  case l2 => show LtH _ _; with_reducible assumption
  case de => with_reducible assumption
  case le => with_reducible assumption
end
section
variable {prog : Program} {w : World} {h₀ : Heap} {L fa : Addr} {cd : Value} {mg mb : Str → Option Value} {mean : ExcName → Option Value} {E : Value → Shared → Prop} {Q : Flow → Shared → Prop} {s : Shared} {u : Str → Option Value}
  {lb : Addr} {us : List Value} {nb : Nat} {ns : List Int} {oc : Obj}
theorem law_setup (X : (hd.heap_39 w.params).In h₀) (T : Top hd.view_39 (looseW hd.view_39 [Str.ofString "GateloomError"]) mean mg mb h₀) (B : Below callerA h₀ [] h₀)
  (GL : Glob 0 mg mb (List.map itemOf (recsOf hd.view_39)) (scalarsOf [] ++ constsW hd.view_39) [] (namesW hd.view_39 [Str.ofString "GateloomError"]) h₀)
  (F : Fr h₀ L s.heap u) (N : News h₀ L s.heap [(lb, listOf us.toArray nb), (L + 1, oc)]) (q0 : LtH (L + 1) lb)
  (hoc : oc.data = .cell (some (.ref lb))) (hi : IntsAre us ns) (hn : ns.length ≤ 80) (hk : ∀ k ∈ ns, 0 ≤ k ∧ k < 37)
  (hE : PassesOwn (model prog w) (callerA.deeper (lawEnv L fa cd)) (lawEnv L fa cd) E)
  (hQ : ∀ m' Λ' h' tk, Fr h₀ L h' m' → News h₀ L h' Λ' → Q (.ret (.bool true)) { s with heap := h', toks := tk }) :
  wpAny (model prog w) (callerA.deeper (lawEnv L fa cd)) (execs (lawBody.drop 1) (lawEnv L fa cd)) Q E s := by
  k_with "exec For Name Call cons nil" => (k_here; refine stop_at ?_)
  k_with "call ref" => (k_here; (with_reducible show wpAny _ _ (call (Value.ref 190) _ _) _ _ _); k_dflt (refine' design_new ?X_q9 ?T_q9 ?B_q9 ?GL_q9 ?F_q9 ?N_q9 ?_; (case F_q9 => k_asm); (case X_q9 => k_in); (case T_q9 => with_reducible assumption); (case B_q9 => with_reducible assumption); (case GL_q9 => with_reducible assumption); (case N_q9 => k_asm); k_whole); intro h' tk' dd' dg' ls' des' n' k' F' N' l1 l2 l3 g1 g9; (k_lt l1); (k_lt2 l2); (k_lt2 l3); (try k_sweep))
  k_with "call ref" => (k_here; (with_reducible show wpAny _ _ (call (Value.ref 127) [_, _, Value.none, _] _) _ _ _); k_dflt (refine' top_new ?X_q9 ?T_q9 ?B_q9 ?GL_q9 ?F_q9 ?N_q9 ?o_q9 ?z1_q9 ?z2_q9 ?g1_q9 ?g9_q9 ?_; (case F_q9 => k_asm); (case X_q9 => k_in); (case T_q9 => with_reducible assumption); (case B_q9 => with_reducible assumption); (case GL_q9 => with_reducible assumption); (case N_q9 => k_asm); (case o_q9 => exact off_two (by with_reducible assumption) (by with_reducible assumption) (by with_reducible assumption) (by with_reducible assumption)); (case z1_q9 => with_reducible assumption); (case z2_q9 => with_reducible assumption); (case g1_q9 => with_reducible assumption); (case g9_q9 => with_reducible assumption); k_whole); intro h' tk' a' d' e' es' en' oe' k' t3 t4 t5 tt' snt' F' N' l1 l2 l3 de le1 ff; (k_lt l1); (k_lt2 l2); (k_lt2 l3); (try k_sweep))
  conv in List.drop 1 lawBody => whnf
  unfold lawEnv
  conv in (occs := *) lawScope => all_goals whnf
  k_steps
  refine stop_go ?_
  rename Fr _ _ _ _ => FF
  rename News _ _ _ _ => NN
  refine' law_rest ?zX ?zT ?zB ?zG (inv_start ?m1 ?m2 ?m3 ?m4 ?m5 ?m6 ?m7 ?m8 ?m9 ?m10 ?m11 ?m12 hoc hi hn hk ?g1 ?g9 ?ff ?de ?dx ?le ?lx ?ht ?nd) (base_of FF rfl rfl rfl rfl) NN hE hQ
  case zX => exact X
  case zT => exact T
  case zB => exact B
  case zG => exact GL
  case m7 => k_memK
  case m6 => k_memK
  case m8 => k_memK
  case m3 => k_memK
  case m4 => k_memK
  case m9 => k_memK
  case m10 => k_memK
  case ff => with_reducible assumption
  case m11 => k_memK
  case m12 => k_memK
  case g1 => with_reducible assumption
  case g9 => with_reducible assumption
  case m5 => k_memK
  case m1 => k_memK
  case m2 => k_memK
  case de => with_reducible assumption
  case dx => with_reducible assumption
  case le => with_reducible assumption
  case lx => with_reducible assumption
  case ht => exact Nat.le_of_ble_eq_true rfl
  case nd =>
    refine nd_chain ?_ ?_ ?_ ?_ ?_ ?_ ?_ ?_ ?_ ?_ ?_
    all_goals (show LtH _ _; with_reducible assumption)

end
section
variable {prog : Program} {w : World} {h₀ : Heap} {L fa : Addr} {cd : Value} {mg mb : Str → Option Value} {mean : ExcName → Option Value} {E : Value → Shared → Prop} {Q : Flow → Shared → Prop} {s : Shared} {u : Str → Option Value} {Λ : List (Addr × Obj)}
  {lb : Addr} {us : List Value} {nb : Nat} {ns : List Int} {oc : Obj} {body : List Stmt} {sc : Scope}
theorem law_enter (hb : body = lawBody.drop 1) (hs : sc = lawScope) (X : (hd.heap_39 w.params).In h₀) (T : Top hd.view_39 (looseW hd.view_39 [Str.ofString "GateloomError"]) mean mg mb h₀) (B : Below callerA h₀ [] h₀)
  (GL : Glob 0 mg mb (List.map itemOf (recsOf hd.view_39)) (scalarsOf [] ++ constsW hd.view_39) [] (namesW hd.view_39 [Str.ofString "GateloomError"]) h₀)
  (F : Fr h₀ L s.heap u) (N : News h₀ L s.heap Λ) (m1 : (L + 1, oc) ∈ Λ) (hoc : oc.data = .cell (some (.ref lb))) (m2 : (lb, listOf us.toArray nb) ∈ Λ) (q0 : @LT.lt Nat _ (L + 1) lb)
  (hi : IntsAre us ns) (hn : ns.length ≤ 80) (hk : ∀ k ∈ ns, 0 ≤ k ∧ k < 37)
  (hE : PassesOwn (model prog w) (callerA.deeper (envOfC (Str.ofString "law") sc L fa cd)) (envOfC (Str.ofString "law") sc L fa cd) E)
  (hQ : ∀ m' Λ' h' tk, Fr h₀ L h' m' → News h₀ L h' Λ' → Q (.ret (.bool true)) { s with heap := h', toks := tk }) :
  wpAny (model prog w) (callerA.deeper (envOfC (Str.ofString "law") sc L fa cd)) (execs body (envOfC (Str.ofString "law") sc L fa cd)) Q E s := by
  subst hb hs
  exact law_setup X T B GL F (nc N m2 (nc N m1 News.nil)) q0 hoc hi hn hk hE hQ
end
section
variable {prog : Program} {w : World} {h₀ : Heap} {L fa : Addr} {cd : Value} {mg mb : Str → Option Value} {mean : ExcName → Option Value} {E : Value → Shared → Prop} {Q : Value → Shared → Prop} {s : Shared} {m : Str → Option Value} {o : Obj} {a : Addr} {vs : List Value} {ns : List Int} {sc : Scope}
theorem jar_U (hs : sc = lawScope)
  (X : (hd.heap_39 w.params).In h₀) (T : Top hd.view_39 (looseW hd.view_39 [Str.ofString "GateloomError"]) mean mg mb h₀) (B : Below callerA h₀ [] h₀)
  (GL : Glob 0 mg mb (List.map itemOf (recsOf hd.view_39)) (scalarsOf [] ++ constsW hd.view_39) [] (namesW hd.view_39 [Str.ofString "GateloomError"]) h₀)
  (F : Fr h₀ L s.heap m) (N : News h₀ L s.heap [(L + 1, o)]) (hS : h₀.IsList a vs.toArray) (hi : IntsAre vs ns) (hn : ns.length ≤ 63)
  (h : ∀ h' tk l us ks n, Fr h₀ L h' m → News h₀ L h' [(l, listOf us.toArray n), (L + 1, o)] → @LT.lt Nat _ (L + 1) l → IntsAre us ks → ks.length ≤ 80 → (∀ k ∈ ks, (0 : Int) ≤ k ∧ k < 37) → Q (.ref l) { s with heap := h', toks := tk }) :
  wpAny (model prog w) (callerA.deeper (envOfC (Str.ofString "law") sc L fa cd)) (call (.ref 201) [.ref a]) Q E s := by
  subst hs
  exact jar_call X T B GL F N hS hi hn h
end
end Mine
set_option maxRecDepth 100000 in
set_option maxHeartbeats 8000000 in
theorem PySem.Challenge.cw_on0113_01_holds : PySem.Challenge.rw_on0113_01.Holds := by
  k_with_none
  k_with "call ref" => (k_here; (with_reducible show wpAny _ _ (call (Value.ref 201) _ _) _ _ _); (refine' Mine.jar_U ?hs_q9 ?X_q9 ?T_q9 ?B_q9 ?GL_q9 ?F_q9 ?N_q9 ?S_q9 ?i_q9 ?n_q9 ?_; (case hs_q9 => kernel_rfl); (case F_q9 => k_asm); (case X_q9 => k_asm); (case T_q9 => k_asm); (case B_q9 => k_asm); (case GL_q9 => with_reducible assumption); (case N_q9 => k_asm); (case S_q9 => with_reducible assumption); (case i_q9 => with_reducible assumption); (case n_q9 => omega); k_whole); intro h' tk' l' us' ks' n' F' N' l1 iB nB kB; (try k_sweep))
  k_with "execs cons" => ((with_reducible show wpAny _ _ (execs [_, _, _, _, _, _, _, _] _) _ _ _); (refine' Mine.law_enter ?hb_q9 ?hs_q9 ?X_q9 ?T_q9 ?B_q9 ?GL_q9 ?F_q9 ?N_q9 ?m1_q9 ?hoc_q9 ?m2_q9 ?q0_q9 ?hi_q9 ?hn_q9 ?hk_q9 ?hE_q9 ?hQ_q9; (case hb_q9 => kernel_rfl); (case hs_q9 => kernel_rfl); (case F_q9 => k_asm); (case X_q9 => k_asm); (case T_q9 => k_asm); (case B_q9 => k_asm); (case GL_q9 => with_reducible assumption); (case N_q9 => k_asm); (case hoc_q9 => with_reducible assumption); (case m2_q9 => exact List.mem_cons_self ..); (case m1_q9 => exact List.mem_cons_of_mem _ (List.mem_cons_self ..)); (case q0_q9 => with_reducible assumption); (case hi_q9 => with_reducible assumption); (case hn_q9 => with_reducible assumption); (case hk_q9 => with_reducible assumption); (case hE_q9 => passes_own)); intro m' Λ' h' tk' F' N'; (try k_sweep))
  refine Mine.hd ?_
  k_go
