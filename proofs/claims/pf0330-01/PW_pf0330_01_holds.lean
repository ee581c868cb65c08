import PyProof.Rows.All
import Wide.All
import OpenK.AllK
import Wide.FinOn
import PySem.Challenge.RW_pf0330_01
set_option Elab.async false
set_option rowWalk.seconds 0
set_option compiler.extract_closed false
section -- Hd
open PySem PySem.W PyProof.Rows
namespace Mine
/-- the text's statements without the three that bind `__name__` -/
noncomputable def bodyV (l : List Stmt) : List Stmt := match l with
  | [s0, _, s2, s3, _, s5, s6, s7, s8, s9, s10, s11, _, s13, s14, s15, s16, s17, s18, s19] => [s0, s2, s3, s5, s6, s7, s8, s9, s10, s11, s13, s14, s15, s16, s17, s18, s19]
  | _ => []
noncomputable def hd.view_39 : Program := { PySem.Challenge.rw_pf0330_01.row.toRowW.prog with main := { PySem.Challenge.rw_pf0330_01.row.toRowW.prog.main with body := bodyV PySem.Challenge.rw_pf0330_01.row.toRowW.prog.main.body } }
theorem said0 : OpenLaw.wellSaid PySem.Challenge.rw_pf0330_01 = true := by kernel_rfl
section
local macro_rules | `(tactic| o_law) => `(tactic| refine holds_law Mine.said0 fun said => ?_)
local macro_rules | `(tactic| o_head $H) => `(tactic| (refine holds_open (q := Mine.hd.view_39) (loose := []) (Xt := fun s => xlAt Mine.hd.view_39 [] s && recOk (RowW.records PySem.Challenge.rw_pf0330_01.row.toRowW) s) (XP := XL Mine.hd.view_39 []) (Yf := Hook.obs $H) (Ya := Hook.val $H) (YP := Hook.says $H) (N := 2616) ?hl (Hook.of $H) (Hook.keeps $H) (fun s e => xl_of s (Bool.and_eq_true_iff.mp e).1) XL.keeps (by rfl) (by rfl) (by rfl) (fun s e => recFacts_of (Bool.and_eq_true_iff.mp e).2) (by rfl) (by first | assumption | decide +kernel) (by decide +kernel) ⟨rfl, rfl, rfl, rfl, rfl, by decide +kernel⟩ ?hw ?hc; (case hl => exact fun w => by kernel_rfl)))
set_option maxRecDepth 100000 in
set_option maxHeartbeats 8000000 in
open_top hd for PySem.Challenge.rw_pf0330_01
end
end Mine
end
namespace Mine
open PySem PySem.W PyProof.Rows PySem.Calls
section -- Mcon
abbrev prog : Program := PySem.Challenge.rw_pf0330_01.row.prog
/-- what a call of a def gives back -/
noncomputable def Con (w : World) (p : Program) (loose : List Str) (mean : ExcName → Option Value) (mg mb : Str → Option Value) (f : Addr) (args : List Value) (fr us : Nat)
    (news : List (Addr × Obj)) (Out : Value → List (Addr × Obj) → Prop) : Prop :=
  ∀ (dp un : Nat) (gd : Option (List Code)) (cn : Str) (cs : Scope) (a : Addr) (ccd : Value) (cl : List (Str × Addr)) (outer : List Env) (A₀ : Around) (base h₀ : Heap) (L : Addr) (m : Str → Option Value) (s : Shared)
    (Q E : Value → Shared → Prop),
    Below A₀ base outer h₀ → Fr h₀ L s.heap m → (Mine.hd.heap_1 w.params).In h₀ → News h₀ L s.heap news → Top p loose mean mg mb h₀ → cs.kind = .function → dp + fr < recursionLimit → un + us < cLine →
    (∀ r news' h' tk', Fr h₀ L h' m → News h₀ L h' news' → Out r news' → Q r { s with heap := h', toks := tk' }) →
    wpAny (model prog w) (ktrTop dp un gd cn cs L a ccd cl outer) (call (.ref f) args) Q E s
end
section -- Rul
/-- a bit as an int -/
noncomputable def bi (b : Bool) : Int := if b then 1 else 0
noncomputable def ItL (o : Obj) (l : Addr) (i : Nat) : Prop := o.cls = .type "list_iterator" ∧ o.data = .fields #[.ref l, .int i 0]
abbrev itG (x left step : Int) : Obj := { cls := .type "range_iterator", dict := none, data := .fields #[rawInt x, rawInt left, rawInt step], slots := #[] }
section
variable {h₀ h h' : Heap} {L I : Addr} {m : Str → Option Value} {news rest : List (Addr × Obj)} {o : Obj}
theorem fr_but (F : Fr h₀ L h m) (hs : Heap.ExtBut I h h') (hIL : I ≠ L) (hI0 : h₀.get? I = none) : Fr h₀ L h' m :=
  ⟨F.ns.extBut hs (Ne.symm hIL), fun b o e => hs b o (fun q => by rw [q, hI0] at e; cases e) (F.keep b o e), F.above⟩
theorem news_but (N : News h₀ L h rest) (hs : Heap.ExtBut I h h') (off : ∀ p ∈ rest, p.1 ≠ I) : News h₀ L h' rest :=
  fun p hp => ⟨hs _ _ (off p hp) (N p hp).1, (N p hp).2⟩
theorem news_sub (N : News h₀ L h news) (hs : ∀ p ∈ rest, p ∈ news) : News h₀ L h rest := fun p hp => N p (hs p hp)
theorem news_cons (N : News h₀ L h rest) (ho : h.get? I = some o) (hL : I ≠ L) (h0 : h₀.get? I = none) : News h₀ L h ((I, o) :: rest) := fun p hp => by
  rcases List.mem_cons.mp hp with rfl | hp
  · exact ⟨ho, hL, h0⟩
  · exact N p hp
end
section
variable {prog : Program} {w : World} {A : Around} {E : Value → Shared → Prop} {s : Shared} {h₀ : Heap} {L l I : Addr} {m : Str → Option Value} {news rest : List (Addr × Obj)}
theorem item_at {value slice : Expr} {its : Array Value} {n : Nat} {k : Int} {u : Tok} {v : Value} {Q : Value → Shared → Prop} (N : News h₀ L s.heap news) (hm : (l, listOf its n) ∈ news)
    (h0 : 0 ≤ k) (hfit : k < 2 ^ 63) (hx : its[k.toNat]? = some v) (h : Q v s)
    (hs : subscripted slice false (.ref l) (.int k u) = operate [.ref l, .int k u] (getItem (.ref l) (.int k u)) := by with_unfolding_all rfl) :
    wpAny (model prog w) A (subscriptTail value slice (.ref l) (.int k u)) Q E s :=
  have hl : s.heap.IsList l its := ⟨_, (N _ hm).1, rfl, n, rfl⟩
  tail_any hl.typeIs slot_list_getitem.lookup (wpAny_getItem_list hl h0 hfit hx h) hs
/-- a walk over a list of the ledger -/
theorem iter_list {its : Array Value} {n : Nat} {Q : Value → Shared → Prop} (F : Fr h₀ L s.heap m) (N : News h₀ L s.heap news) (hm : (l, listOf its n) ∈ news)
    (h : ∀ I o h', ItL o l 0 → Fr h₀ L h' m → News h₀ L h' ((I, o) :: news) → (∀ p ∈ news, p.1 < I) → Q (.ref I) { s with heap := h' }) : wpAny (model prog w) A (pyIter (.ref l)) Q E s :=
  wpAny_pyIter_list ⟨_, (N _ hm).1, rfl, n, rfl⟩ (h _ _ _ ⟨rfl, rfl⟩ (F.push _) (N.push F _) fun p hp => Heap.lt_size (N p hp).1)
theorem iter_range {a b c : Int} {t u v : Tok} {Q : Value → Shared → Prop} (F : Fr h₀ L s.heap m) (N : News h₀ L s.heap news) (hr : IsRange s.heap l a b c t u v) (hsmall : Builtin.Range.small a b c = true)
    (h : ∀ I h', Fr h₀ L h' m → News h₀ L h' ((I, itG a (Builtin.Range.rangeSize a b c) c) :: news) → (∀ p ∈ news, p.1 < I) → Q (.ref I) { s with heap := h' }) : wpAny (model prog w) A (pyIter (.ref l)) Q E s :=
  wpAny_pyIter_range hr hsmall (h _ _ (F.push _) (N.push F _) fun p hp => Heap.lt_size (N p hp).1)
theorem next_list {its : Array Value} {n i : Nat} {x : Value} {o : Obj} {Q : Option Value → Shared → Prop} (F : Fr h₀ L s.heap m) (N : News h₀ L s.heap ((I, o) :: rest)) (hO : ItL o l i) (off : ∀ p ∈ rest, p.1 ≠ I) (hm : (l, listOf its n) ∈ rest)
    (hx : its[i]? = some x) (h : ∀ o' h', ItL o' l (i + 1) → Fr h₀ L h' m → News h₀ L h' ((I, o') :: rest) → Q (some x) { s with heap := h' }) : wpAny (model prog w) A (pyNext (.ref I)) Q E s := by
  have NI := N _ (.head _)
  have Nr : News h₀ L s.heap rest := news_sub N fun p hp => .tail _ hp
  refine wpAny_pyNext_list_item ⟨_, NI.1, hO.1, hO.2⟩ ⟨_, (Nr _ hm).1, rfl, n, rfl⟩ hx fun h' hit' hs' => ?_
  obtain ⟨o', ho', hc, hd⟩ := hit'
  exact h o' h' ⟨hc, hd⟩ (fr_but F hs'.extBut NI.2.1 NI.2.2) (news_cons (news_but Nr hs'.extBut off) ho' NI.2.1 NI.2.2)
theorem next_list_end {its : Array Value} {n i : Nat} {o : Obj} {Q : Option Value → Shared → Prop} (hh : A.handled = none) (F : Fr h₀ L s.heap m) (N : News h₀ L s.heap ((I, o) :: rest)) (hO : ItL o l i) (off : ∀ p ∈ rest, p.1 ≠ I) (hm : (l, listOf its n) ∈ rest)
    (hx : its.size ≤ i) (h : ∀ h', Fr h₀ L h' m → News h₀ L h' rest → Q none { s with heap := h' }) : wpAny (model prog w) A (pyNext (.ref I)) Q E s := by
  have NI := N _ (.head _)
  have Nr : News h₀ L s.heap rest := news_sub N fun p hp => .tail _ hp
  refine wpAny_pyNext_list_end hh ⟨_, NI.1, hO.1, hO.2⟩ ⟨_, (Nr _ hm).1, rfl, n, rfl⟩ (by simpa using hx) fun h' hs' => ?_
  exact h h' (fr_but F hs' NI.2.1 NI.2.2) (news_but Nr hs' off)
theorem next_range {x left step : Int} {Q : Option Value → Shared → Prop} (F : Fr h₀ L s.heap m) (N : News h₀ L s.heap ((I, itG x left step) :: rest)) (off : ∀ p ∈ rest, p.1 ≠ I) (hl : 0 < left)
    (h : ∀ t h' tk, Fr h₀ L h' m → News h₀ L h' ((I, itG (x + step) (left - 1) step) :: rest) → Q (some (.int x t)) { s with heap := h', toks := tk }) : wpAny (model prog w) A (pyNext (.ref I)) Q E s := by
  have NI := N _ (.head _)
  have Nr : News h₀ L s.heap rest := news_sub N fun p hp => .tail _ hp
  refine wpAny_pyNext_range_item NI.1 hl fun h' hit' hs' => ?_
  exact h _ h' _ (fr_but F hs'.extBut NI.2.1 NI.2.2) (news_cons (news_but Nr hs'.extBut off) hit' NI.2.1 NI.2.2)
theorem next_range_end {x left step : Int} {Q : Option Value → Shared → Prop} (hh : A.handled = none) (F : Fr h₀ L s.heap m) (N : News h₀ L s.heap ((I, itG x left step) :: rest)) (off : ∀ p ∈ rest, p.1 ≠ I) (hl : left ≤ 0)
    (h : ∀ h', Fr h₀ L h' m → News h₀ L h' rest → Q none { s with heap := h' }) : wpAny (model prog w) A (pyNext (.ref I)) Q E s := by
  have NI := N _ (.head _)
  have Nr : News h₀ L s.heap rest := news_sub N fun p hp => .tail _ hp
  refine wpAny_pyNext_range_end hh NI.1 hl fun h' hs' => ?_
  exact h h' (fr_but F hs' NI.2.1 NI.2.2) (news_but Nr hs' off)
end
section
variable {prog : Program} {w : World} {A : Around} {E : Value → Shared → Prop} {s : Shared} {env : Env} {target iter : Expr} {body : List Stmt} {it : Value} {Q : Flow → Shared → Prop}
/-- what is left of a for -/
noncomputable def ForRest (prog : Program) (w : World) (A : Around) (env : Env) (target : Expr) (it : Value) (body : List Stmt) (Q : Flow → Shared → Prop) (s : Shared) : Prop :=
  codeAny (model prog w) A (.forLoop target it body [] env) (fun r s' => match r with | .ok f => Q f s' | .error e => cameBackBy (model prog w) A env (fun _ _ => False) e s') s
noncomputable def ForPost (prog : Program) (w : World) (A : Around) (env : Env) (target : Expr) (it : Value) (body : List Stmt) (Q : Flow → Shared → Prop) (f : Flow) (s : Shared) : Prop :=
  match f with
  | .next => ForRest prog w A env target it body Q s
  | .cont => ForRest prog w A env target it body Q s
  | .brk => Q .next s
  | .ret v => Q (.ret v) s
noncomputable def ForNext (prog : Program) (w : World) (A : Around) (env : Env) (target : Expr) (it : Value) (body : List Stmt) (Q : Flow → Shared → Prop) (r : Option Value) (s : Shared) : Prop :=
  match r with
  | none => Q .next s
  | some v => wpAny (model prog w) A (assign target env v) (fun _ s₂ => wpAny (model prog w) A (execs body env) (ForPost prog w A env target it body Q) (fun _ _ => False) s₂) (fun _ _ => False) s
theorem for_turn (h : wpAny (model prog w) A (pyNext it) (ForNext prog w A env target it body Q) (fun _ _ => False) s) (ht : ∀ v, letOwnedTupleGo target it v = pure () := by intro _; rfl) : ForRest prog w A env target it body Q s := by
  refine codeAny_of_tree ?_
  show wpAny (model prog w) A ((forTurn target it body [] env).onRaise (fun x => do noteFrame x env; theTreesLotGoes x)) _ _ s
  refine wpAny_noted ?_
  simp only [forTurn]
  refine wpAny_bind (wpAny_standAt (wpAny_bind (wpAny_onRaise (wpAny_mono h (fun r s₁ h₁ => ?_) fun _ _ h' => h'.elim))))
  cases r with
  | none => exact wpAny_pure ⟨rfl, codeAny_block (wpAny_execs_nil h₁)⟩
  | some v =>
    refine wpAny_bind (wpAny_of_eq (ht v) ?_)
    refine wpAny_bind (wpAny_mono h₁ (fun _ s₂ h₂ => wpAny_bind (wpAny_mono h₂ (fun f s₃ h₃ => ?_) fun _ _ h' => h'.elim)) fun _ _ h' => h'.elim)
    cases f with
    | next => exact wpAny_pure ⟨rfl, h₃⟩
    | cont => exact wpAny_pure ⟨rfl, h₃⟩
    | brk => exact wpAny_pure h₃
    | ret v => exact wpAny_pure h₃
theorem for_start {pos : Pos} (h : wpAny (model prog w) A (eval iter env) (fun x s₁ => wpAny (model prog w) A (pyIter x) (fun it s₂ => ForRest prog w A env target it body Q s₂) (fun _ _ => False) s₁) (fun _ _ => False) s)
    (hs : ∀ x, foldedSetIterable iter env x = pure x := by intro _; rfl) : wpAny (model prog w) A (exec (.For target iter body [] pos) env) Q E s :=
  wpAny_noRaise (wpAny_For h hs)
noncomputable def WhileRest (prog : Program) (w : World) (A : Around) (env : Env) (test : Expr) (body : List Stmt) (Q : Flow → Shared → Prop) (s : Shared) : Prop :=
  WhlRest prog w A (fun _ _ => False) env test body [] Q 0 s
noncomputable def WhilePost (prog : Program) (w : World) (A : Around) (env : Env) (test : Expr) (body : List Stmt) (Q : Flow → Shared → Prop) (f : Flow) (s : Shared) : Prop :=
  match f with
  | .next => WhileRest prog w A env test body Q s
  | .cont => WhileRest prog w A env test body Q s
  | .brk => Q .next s
  | .ret v => Q (.ret v) s
theorem while_turn {test : Expr} (h : wpAny (model prog w) A (isTrue test env (eval test env)) (fun b s₂ => if b = true then wpAny (model prog w) A (execs body env) (WhilePost prog w A env test body Q) (fun _ _ => False) s₂ else Q .next s₂) (fun _ _ => False) s) :
    WhileRest prog w A env test body Q s := by
  refine whl_turn (k := 0) PassesOwn.never (wpAny_mono h (fun b s₂ h₂ => ?_) fun _ _ x => x)
  cases b with
  | false => exact WhlIf.no rfl (wpAny_execs_nil h₂)
  | true =>
    refine WhlIf.yes rfl (wpAny_mono h₂ (fun f s₃ h₃ => ?_) fun _ _ x => x)
    cases f <;> exact h₃
theorem while_start {test : Expr} {pos : Pos} (h : WhileRest prog w A env test body Q s) : wpAny (model prog w) A (exec (.While test body [] pos) env) Q E s :=
  wpAny_noRaise (whl_start 0 h)
end
section
variable {prog : Program} {w : World} {A : Around} {E : Value → Shared → Prop} {s : Shared} {env : Env} {target : Expr} {body : List Stmt} {Q : Flow → Shared → Prop} {h₀ : Heap} {L l I : Addr} {m : Str → Option Value} {rest : List (Addr × Obj)}
theorem for_item {its : Array Value} {n i : Nat} {x : Value} {o : Obj} (F : Fr h₀ L s.heap m) (N : News h₀ L s.heap ((I, o) :: rest)) (hO : ItL o l i) (off : ∀ p ∈ rest, p.1 ≠ I) (hm : (l, listOf its n) ∈ rest) (hx : its[i]? = some x)
    (h : ∀ o' h', ItL o' l (i + 1) → Fr h₀ L h' m → News h₀ L h' ((I, o') :: rest) →
      wpAny (model prog w) A (assign target env x) (fun _ s₂ => wpAny (model prog w) A (execs body env) (ForPost prog w A env target (.ref I) body Q) (fun _ _ => False) s₂) (fun _ _ => False) { s with heap := h' })
    (ht : ∀ v, letOwnedTupleGo target (.ref I) v = pure () := by intro _; rfl) : ForRest prog w A env target (.ref I) body Q s :=
  for_turn (next_list F N hO off hm hx fun o' h' hO' F' N' => h o' h' hO' F' N') ht
theorem for_end {its : Array Value} {n i : Nat} {o : Obj} (hh : A.handled = none) (F : Fr h₀ L s.heap m) (N : News h₀ L s.heap ((I, o) :: rest)) (hO : ItL o l i) (off : ∀ p ∈ rest, p.1 ≠ I) (hm : (l, listOf its n) ∈ rest) (hx : its.size ≤ i)
    (h : ∀ h', Fr h₀ L h' m → News h₀ L h' rest → Q .next { s with heap := h' })
    (ht : ∀ v, letOwnedTupleGo target (.ref I) v = pure () := by intro _; rfl) : ForRest prog w A env target (.ref I) body Q s :=
  for_turn (next_list_end hh F N hO off hm hx fun h' F' N' => h h' F' N') ht
theorem for_itemR {x left step : Int} (F : Fr h₀ L s.heap m) (N : News h₀ L s.heap ((I, itG x left step) :: rest)) (off : ∀ p ∈ rest, p.1 ≠ I) (hl : 0 < left)
    (h : ∀ t h' tk, Fr h₀ L h' m → News h₀ L h' ((I, itG (x + step) (left - 1) step) :: rest) →
      wpAny (model prog w) A (assign target env (.int x t)) (fun _ s₂ => wpAny (model prog w) A (execs body env) (ForPost prog w A env target (.ref I) body Q) (fun _ _ => False) s₂) (fun _ _ => False) { s with heap := h', toks := tk })
    (ht : ∀ v, letOwnedTupleGo target (.ref I) v = pure () := by intro _; rfl) : ForRest prog w A env target (.ref I) body Q s :=
  for_turn (next_range F N off hl fun t h' tk F' N' => h t h' tk F' N') ht
theorem for_endR {x left step : Int} (hh : A.handled = none) (F : Fr h₀ L s.heap m) (N : News h₀ L s.heap ((I, itG x left step) :: rest)) (off : ∀ p ∈ rest, p.1 ≠ I) (hl : left ≤ 0)
    (h : ∀ h', Fr h₀ L h' m → News h₀ L h' rest → Q .next { s with heap := h' })
    (ht : ∀ v, letOwnedTupleGo target (.ref I) v = pure () := by intro _; rfl) : ForRest prog w A env target (.ref I) body Q s :=
  for_turn (next_range_end hh F N off hl fun h' F' N' => h h' F' N') ht
/-- a for by induction over what is left of the items -/
theorem for_ind {it : Value} {α : Type} (J : List α → Shared → Prop) (step : ∀ x xs s, J (x :: xs) s → (∀ s', J xs s' → ForRest prog w A env target it body Q s') → ForRest prog w A env target it body Q s)
    (done : ∀ s, J [] s → ForRest prog w A env target it body Q s) : ∀ xs s, J xs s → ForRest prog w A env target it body Q s
  | [], s, h => done s h
  | x :: xs, s, h => step x xs s h fun s' h' => for_ind J step done xs s' h'
theorem for_indN {it : Value} (J : Nat → Shared → Prop) (step : ∀ k s, J (k + 1) s → (∀ s', J k s' → ForRest prog w A env target it body Q s') → ForRest prog w A env target it body Q s)
    (done : ∀ s, J 0 s → ForRest prog w A env target it body Q s) : ∀ k s, J k s → ForRest prog w A env target it body Q s
  | 0, s, h => done s h
  | k + 1, s, h => step k s h fun s' h' => for_indN J step done k s' h'
theorem while_ind {test : Expr} (J : Nat → Shared → Prop) (step : ∀ k s, J k s → (∀ k' s', k' < k → J k' s' → WhileRest prog w A env test body Q s') → WhileRest prog w A env test body Q s) (k : Nat) (s : Shared) (h : J k s) :
    WhileRest prog w A env test body Q s := by
  induction k using Nat.strongRecOn generalizing s with
  | ind k ih => exact step k s h fun k' s' hk hj => ih k' hk s' hj
theorem for_post_next {it : Value} (h : ForRest prog w A env target it body Q s) : ForPost prog w A env target it body Q .next s := h
theorem for_post_ret {it v : Value} (h : Q (.ret v) s) : ForPost prog w A env target it body Q (.ret v) s := h
end
section
variable {prog : Program} {w : World} {A : Around} {E : Value → Shared → Prop} {s : Shared} {h₀ : Heap} {L l : Addr} {news : List (Addr × Obj)}
theorem item_last {value slice : Expr} {pre : List Value} {n : Nat} {u : Tok} {v : Value} {Q : Value → Shared → Prop} (N : News h₀ L s.heap news) (hm : (l, listOf (pre ++ [v]).toArray n) ∈ news) (h : Q v s)
    (hs : subscripted slice false (.ref l) (.int (-1) u) = operate [.ref l, .int (-1) u] (getItem (.ref l) (.int (-1) u)) := by with_unfolding_all rfl) :
    wpAny (model prog w) A (subscriptTail value slice (.ref l) (.int (-1) u)) Q E s := by
  have hl : s.heap.IsList l (pre ++ [v]).toArray := ⟨_, (N _ hm).1, rfl, n, rfl⟩
  refine tail_any hl.typeIs slot_list_getitem.lookup (wpAny_getItem_list_neg hl (by decide) ?_ (by decide) ?_ h) hs
  · simp; omega
  · have e : ((-1 : Int) + ((pre ++ [v]).toArray.size : Int)).toNat = pre.length := by simp; omega
    rw [e]; simp
theorem item_node {value slice : Expr} {x0 x1 x2 : Value} {n : Nat} {b : Bool} {u : Tok} {v : Value} {Q : Value → Shared → Prop} (N : News h₀ L s.heap news) (hm : (l, listOf #[x0, x1, x2] n) ∈ news)
    (hb : (if b = true then x1 else x0) = v) (h : Q v s)
    (hs : ∀ k, subscripted slice false (.ref l) (.int k u) = operate [.ref l, .int k u] (getItem (.ref l) (.int k u)) := by intro _; with_unfolding_all rfl) :
    wpAny (model prog w) A (subscriptTail value slice (.ref l) (.int (bi b) u)) Q E s :=
  item_at N hm (by cases b <;> decide) (by cases b <;> decide) (by subst hb; cases b <;> rfl) h (hs _)
theorem item_z {value slice : Expr} {x y v : Value} {n : Nat} {b : Bool} {u : Tok} {Q : Value → Shared → Prop} (N : News h₀ L s.heap news) (hm : (l, listOf (if b = true then #[x, v, y] else #[v, x, y]) n) ∈ news) (h : Q v s)
    (hs : ∀ k, subscripted slice false (.ref l) (.int k u) = operate [.ref l, .int k u] (getItem (.ref l) (.int k u)) := by intro _; with_unfolding_all rfl) :
    wpAny (model prog w) A (subscriptTail value slice (.ref l) (.int (bi b) u)) Q E s :=
  item_at N hm (by cases b <;> decide) (by cases b <;> decide) (by cases b <;> rfl) h (hs _)
theorem item3_0 {value slice : Expr} {x0 x1 x2 : Value} {n : Nat} {u : Tok} {Q : Value → Shared → Prop} (N : News h₀ L s.heap news) (hm : (l, listOf #[x0, x1, x2] n) ∈ news) (h : Q x0 s)
    (hs : subscripted slice false (.ref l) (.int 0 u) = operate [.ref l, .int 0 u] (getItem (.ref l) (.int 0 u)) := by with_unfolding_all rfl) :
    wpAny (model prog w) A (subscriptTail value slice (.ref l) (.int 0 u)) Q E s := item_at N hm (by decide) (by decide) rfl h hs
theorem item3_1 {value slice : Expr} {x0 x1 x2 : Value} {n : Nat} {u : Tok} {Q : Value → Shared → Prop} (N : News h₀ L s.heap news) (hm : (l, listOf #[x0, x1, x2] n) ∈ news) (h : Q x1 s)
    (hs : subscripted slice false (.ref l) (.int 1 u) = operate [.ref l, .int 1 u] (getItem (.ref l) (.int 1 u)) := by with_unfolding_all rfl) :
    wpAny (model prog w) A (subscriptTail value slice (.ref l) (.int 1 u)) Q E s := item_at N hm (by decide) (by decide) rfl h hs
theorem item3_2 {value slice : Expr} {x0 x1 x2 : Value} {n : Nat} {u : Tok} {Q : Value → Shared → Prop} (N : News h₀ L s.heap news) (hm : (l, listOf #[x0, x1, x2] n) ∈ news) (h : Q x2 s)
    (hs : subscripted slice false (.ref l) (.int 2 u) = operate [.ref l, .int 2 u] (getItem (.ref l) (.int 2 u)) := by with_unfolding_all rfl) :
    wpAny (model prog w) A (subscriptTail value slice (.ref l) (.int 2 u)) Q E s := item_at N hm (by decide) (by decide) rfl h hs
theorem truthy_at {its : Array Value} {n : Nat} {b : Bool} {Q : Bool → Shared → Prop} (N : News h₀ L s.heap news) (hm : (l, listOf its n) ∈ news) (hb : (!its.isEmpty) = b) (hfit : (its.size : Int) < 2 ^ 63)
    (h : ∀ tk, Q b { s with toks := tk }) : wpAny (model prog w) A (truthy (.ref l)) Q E s := by
  subst hb
  exact wpAny_truthy_list ⟨_, (N _ hm).1, rfl, n, rfl⟩ hfit (h _)
theorem kl_last_snoc (x : Value) : ∀ vs : List Value, kl_last (vs ++ [x]) = some (vs, x)
  | [] => rfl
  | v :: vs => by
    show (match kl_last (vs ++ [x]) with | some (p, y) => some (v :: p, y) | none => some ([], v)) = _
    rw [kl_last_snoc x vs]
theorem pop_snoc {vs : List Value} {x : Value} {n : Nat} {m : Str → Option Value} {rest : List (Addr × Obj)} {Q : Value → Shared → Prop} (F : Fr h₀ L s.heap m) (N : News h₀ L s.heap ((l, listOf (vs ++ [x]).toArray n) :: rest)) (off : ∀ q ∈ rest, q.1 ≠ l)
    (hz : ((vs ++ [x]).toArray.size : Int) < 2 ^ 24) (h : ∀ h', Fr h₀ L h' m → News h₀ L h' ((l, listOf vs.toArray (n + 1)) :: rest) → Q x { s with heap := h' }) : wpAny (model prog w) A (call (.builtin "list.pop") [.ref l]) Q E s :=
  kl_pop F N (by simpa using kl_last_snoc x vs) (.head off) (by rw [sizeLine_eq]; rw [List.size_toArray] at hz; simp only [List.length_append, List.length_singleton] at hz ⊢; omega) h
theorem len_at {its : Array Value} {n : Nat} {z : Int} {Q : Value → Shared → Prop} (N : News h₀ L s.heap news) (hm : (l, listOf its n) ∈ news) (hz : (its.size : Int) = z) (hfit : z < 2 ^ 63)
    (h : ∀ t tk, Q (.int z t) { s with toks := tk }) : wpAny (model prog w) A (call (.builtin "len") [.ref l]) Q E s := by
  subst hz
  exact len_list ⟨_, (N _ hm).1, rfl, n, rfl⟩ hfit (h _ _)
theorem set_at {its its' : Array Value} {n : Nat} {k : Int} {t : Tok} {v : Value} {m : Str → Option Value} {rest : List (Addr × Obj)} {Q : Unit → Shared → Prop} (F : Fr h₀ L s.heap m) (N : News h₀ L s.heap ((l, listOf its n) :: rest)) (off : ∀ q ∈ rest, q.1 ≠ l)
    (h0 : 0 ≤ k) (hfit : k < 2 ^ 63) (hk : k < its.size) (he : its.setIfInBounds k.toNat v = its') (h : ∀ h', Fr h₀ L h' m → News h₀ L h' ((l, listOf its' n) :: rest) → Q () { s with heap := h' }) :
    wpAny (model prog w) A (setItem (.ref l) (.int k t) v) Q E s := by
  have z := N (l, listOf its n) (.head _)
  have N' : News h₀ L (s.heap.update l (Obj.mapSeq (·.setIfInBounds k.toNat v))) ([] ++ (l, listOf its' n) :: rest) :=
    ki_turn (pre := []) _ N (fun _ hp => nomatch hp) off he (by subst he; simp)
  exact ki_setAt z.1 h0 hfit hk (h _ (F.change (Heap.SameBut.update ..) z.2.1 z.2.2) N')
end
section
variable {w : World} {p : Program} {loose : List Str} {mean : ExcName → Option Value} {mg mb : Str → Option Value} {f : Addr} {args : List Value} {fr us : Nat} {news : List (Addr × Obj)} {Out : Value → List (Addr × Obj) → Prop}
theorem con_use {dp un : Nat} {gd : Option (List Code)} {cn : Str} {cs : Scope} {a : Addr} {ccd : Value} {cl : List (Str × Addr)} {outer : List Env} {A₀ : Around} {base h₀ : Heap} {L : Addr} {m : Str → Option Value} {s : Shared} {Q E : Value → Shared → Prop}
    (C : Con w p loose mean mg mb f args fr us news Out) (B : Below A₀ base outer h₀) (F : Fr h₀ L s.heap m) (X : (Mine.hd.heap_1 w.params).In h₀) (N : News h₀ L s.heap news) (T : Top p loose mean mg mb h₀) (hk : cs.kind = .function)
    (hd : dp + fr < recursionLimit) (hu : un + us < cLine) (ret : ∀ r news' h' tk', Fr h₀ L h' m → News h₀ L h' news' → Out r news' → Q r { s with heap := h', toks := tk' }) :
    wpAny (model prog w) (ktrTop dp un gd cn cs L a ccd cl outer) (call (.ref f) args) Q E s :=
  C dp un gd cn cs a ccd cl outer A₀ base h₀ L m s Q E B F X N T hk hd hu ret
end
section
variable {M : Model} {A : Around} {E : Value → Shared → Prop} {s : Shared} {env : Env} {test : Expr} {body orelse : List Stmt} {pos : Pos} {Q : Flow → Shared → Prop}
/-- the walk is held here -/
noncomputable def Hold (P : Prop) : Prop := P
theorem hold_if (h : Hold (wpAny M A (exec (.If test body orelse pos) env) Q E s)) : wpAny M A (exec (.If test body orelse pos) env) Q E s := h
noncomputable def JoinPost (P : Shared → Prop) (f : Flow) (s : Shared) : Prop := f = .next ∧ P s
theorem join_at {P : Shared → Prop} (h : P s) : JoinPost P .next s := ⟨rfl, h⟩
theorem if_join (P : Shared → Prop) (h1 : wpAny M A (exec (.If test body orelse pos) env) (JoinPost P) E s) (h2 : ∀ s', P s' → Q .next s') : Hold (wpAny M A (exec (.If test body orelse pos) env) Q E s) :=
  wpAny_mono h1 (fun _ s' h => h.1 ▸ h2 s' h.2) fun _ _ h => h
theorem hold_off {P : Prop} (h : P) : Hold P := h
end
end
section -- Tri
/-- a trie on the heap: each node with its address -/
inductive Tre where
  | nil
  | node (a : Addr) (l r : Tre) (g : Value)
/-- a trie without addresses -/
inductive Shp where
  | nil
  | node (l r : Shp) (g : Value)
namespace Tre
noncomputable def val : Tre → Value
  | nil => .none
  | node a _ _ _ => .ref a
noncomputable def objs : Tre → List (Addr × Obj)
  | nil => []
  | node a l r g => (a, listOf #[l.val, r.val, g] 0) :: (l.objs ++ r.objs)
noncomputable def er : Tre → Shp
  | nil => .nil
  | node _ l r g => .node l.er r.er g
end Tre
/-- the addresses along a road, if it is there -/
noncomputable def Tre.way : List Bool → Tre → Option (List Addr)
  | _, nil => none
  | [], node a _ _ _ => some [a]
  | b :: p, node a l r _ => (Tre.way p (if b then r else l)).map (a :: ·)
theorem val_nil : Tre.nil.val = .none := rfl
theorem val_mk (a : Addr) (l r : Tre) (g : Value) : (Tre.node a l r g).val = .ref a := rfl
namespace Shp
noncomputable def bare : Shp → Bool
  | nil => true
  | node nil nil g => g == .none
  | node _ _ _ => false
noncomputable def gl : Shp → Value
  | nil => .none
  | node _ _ g => g
noncomputable def kid (b : Bool) : Shp → Shp
  | nil => nil
  | node l r _ => if b then r else l
noncomputable def get : List Bool → Shp → Value
  | [], t => t.gl
  | b :: p, t => get p (t.kid b)
noncomputable def put : List Bool → Value → Shp → Shp
  | [], g, nil => node nil nil g
  | [], g, node l r _ => node l r g
  | b :: p, g, nil => if b then node nil (put p g nil) .none else node (put p g nil) nil .none
  | b :: p, g, node l r h => if b then node l (put p g r) h else node (put p g l) r h
noncomputable def cut (t : Shp) : Shp := if t.bare then nil else t
noncomputable def drop : List Bool → Shp → Shp
  | _, nil => nil
  | [], node l r _ => node l r .none
  | b :: p, node l r h => if b then node l (drop p r).cut h else node (drop p l).cut r h
/-- is there a node at the road's end? -/
noncomputable def has : List Bool → Shp → Bool
  | _, nil => false
  | [], node _ _ _ => true
  | b :: p, node l r _ => if b then has p r else has p l
end Shp
/-- a step up: what a node has beside the child on the road -/
structure Z where
  right : Bool
  a : Addr
  sib : Tre
  g : Value
structure ZS where
  right : Bool
  sib : Shp
  g : Value
namespace Z
noncomputable def up (z : Z) (t : Tre) : Tre := if z.right then .node z.a z.sib t z.g else .node z.a t z.sib z.g
noncomputable def obj (z : Z) (v : Value) : Addr × Obj := (z.a, listOf (if z.right then #[z.sib.val, v, z.g] else #[v, z.sib.val, z.g]) 0)
noncomputable def er (z : Z) : ZS := ⟨z.right, z.sib.er, z.g⟩
end Z
noncomputable def ZS.up (z : ZS) (t : Shp) : Shp := if z.right then .node z.sib t z.g else .node t z.sib z.g
noncomputable def plug : List Z → Tre → Tre
  | [], t => t
  | z :: c, t => plug c (z.up t)
noncomputable def plugS : List ZS → Shp → Shp
  | [], t => t
  | z :: c, t => plugS c (z.up t)
noncomputable def cobjs : List Z → Value → List (Addr × Obj)
  | [], _ => []
  | z :: c, v => z.obj v :: (z.sib.objs ++ cobjs c (.ref z.a))
theorem Z.up_val (z : Z) (t : Tre) : (z.up t).val = .ref z.a := by unfold Z.up; split <;> rfl
theorem Z.up_er (z : Z) (t : Tre) : (z.up t).er = z.er.up t.er := by
  unfold Z.up ZS.up Z.er
  cases z.right <;> rfl
theorem plug_er : ∀ (c : List Z) (t : Tre), (plug c t).er = plugS (c.map Z.er) t.er
  | [], _ => rfl
  | z :: c, t => by
    show (plug c (z.up t)).er = plugS (c.map Z.er) (z.er.up t.er)
    rw [plug_er c, Z.up_er]
theorem Z.up_objs (z : Z) (t : Tre) : (z.up t).objs.Perm (t.objs ++ (z.obj t.val :: z.sib.objs)) := by
  unfold Z.up Z.obj
  cases z.right with
  | true =>
    simp only [if_true, Tre.objs]
    have h1 : ((z.a, listOf #[z.sib.val, t.val, z.g] 0) :: (z.sib.objs ++ t.objs)).Perm ((z.a, listOf #[z.sib.val, t.val, z.g] 0) :: z.sib.objs ++ t.objs) := by simp
    exact h1.trans List.perm_append_comm
  | false =>
    simp only [Bool.false_eq_true, if_false, Tre.objs]
    exact List.perm_middle.symm
theorem plug_objs : ∀ (c : List Z) (t : Tre), (plug c t).objs.Perm (t.objs ++ cobjs c t.val)
  | [], t => by simp [plug, cobjs]
  | z :: c, t => by
    show (plug c (z.up t)).objs.Perm (t.objs ++ (z.obj t.val :: (z.sib.objs ++ cobjs c (.ref z.a))))
    have h1 := plug_objs c (z.up t)
    rw [Z.up_val] at h1
    refine h1.trans ?_
    have h2 := (Z.up_objs z t).append_right (cobjs c (.ref z.a))
    refine h2.trans ?_
    simp
/-- all addresses of the ledger differ -/
noncomputable def Nd (l : List (Addr × Obj)) : Prop := (l.map (·.1)).Nodup
theorem Nd.perm {l l' : List (Addr × Obj)} (h : Nd l) (p : l.Perm l') : Nd l' := by
  have q : (l.map (·.1)).Perm (l'.map (·.1)) := p.map _
  exact q.nodup_iff.mp h
theorem Nd.tail {p : Addr × Obj} {l : List (Addr × Obj)} (h : Nd (p :: l)) : Nd l := by
  unfold Nd at h ⊢
  rw [List.map_cons, List.nodup_cons] at h
  exact h.2
theorem Nd.off {p : Addr × Obj} {l : List (Addr × Obj)} (h : Nd (p :: l)) : ∀ q ∈ l, q.1 ≠ p.1 := by
  unfold Nd at h
  rw [List.map_cons, List.nodup_cons] at h
  intro q hq e
  exact h.1 (e ▸ List.mem_map_of_mem hq)
theorem Nd.cons {p : Addr × Obj} {l : List (Addr × Obj)} (h : Nd l) (o : ∀ q ∈ l, q.1 ≠ p.1) : Nd (p :: l) := by
  unfold Nd at h ⊢
  rw [List.map_cons, List.nodup_cons]
  refine ⟨fun hm => ?_, h⟩
  obtain ⟨q, hq, e⟩ := List.mem_map.mp hm
  exact o q hq e
theorem Nd.lt {p : Addr × Obj} {l : List (Addr × Obj)} (h : Nd l) (o : ∀ q ∈ l, q.1 < p.1) : Nd (p :: l) := h.cons fun q hq => Nat.ne_of_lt (o q hq)
theorem Nd.head {a : Addr} {o o' : Obj} {l : List (Addr × Obj)} (h : Nd ((a, o) :: l)) : Nd ((a, o') :: l) := h.tail.cons fun q hq => h.off q hq
theorem Nd.right {l l' : List (Addr × Obj)} (h : Nd (l ++ l')) : Nd l' := by
  unfold Nd at h ⊢
  rw [List.map_append] at h
  exact (List.nodup_append.mp h).2.1
theorem Nd.left {l l' : List (Addr × Obj)} (h : Nd (l ++ l')) : Nd l := by
  unfold Nd at h ⊢
  rw [List.map_append] at h
  exact (List.nodup_append.mp h).1
theorem Nd.sublist {l l' : List (Addr × Obj)} (h : Nd l') (s : l.Sublist l') : Nd l := List.Nodup.sublist (s.map (·.1)) h
theorem news_perm {h₀ h : Heap} {L : Addr} {l l' : List (Addr × Obj)} (N : News h₀ L h l) (p : l.Perm l') : News h₀ L h l' := fun q hq => N q (p.mem_iff.mpr hq)
theorem bare_node {a : Addr} {l r : Tre} {g : Value} : (Tre.node a l r g).er.bare = (l.val == .none && r.val == .none && g == .none) := by
  cases l <;> cases r <;> simp [Tre.er, Shp.bare, Tre.val]
/-- the bare nodes go, from below -/
noncomputable def pruneZ : List Z → Tre → Tre
  | [], u => u
  | z :: c, u => if u.er.bare then pruneZ c (z.up .nil) else plug (z :: c) u
theorem up_nil_objs (z : Z) : (z.up .nil).objs = z.obj .none :: z.sib.objs := by
  unfold Z.up Z.obj
  cases z.right <;> simp [Tre.objs, Tre.val]
theorem cobjs_cons (z : Z) (c : List Z) (v : Value) : cobjs (z :: c) v = z.obj v :: (z.sib.objs ++ cobjs c (.ref z.a)) := rfl
/-- the road to the prefix of n bits at B, of k bits -/
noncomputable def pth (k n B : Nat) : List Bool := (List.range n).map fun i => decide (B / 2 ^ (k - 1 - i) % 2 = 1)
theorem pth_len (k n B : Nat) : (pth k n B).length = n := by simp [pth]
theorem fdiv_nat (a b : Nat) : Int.fdiv (a : Int) (b : Int) = ((a / b : Nat) : Int) := by
  rw [Int.fdiv_eq_ediv_of_nonneg _ (Int.natCast_nonneg b)]
  simp
theorem pth_ints {k n B : Nat} (h : n ≤ k) : ((rangeKs 0 ((n : Int) - 0).toNat).map fun i => Builtin.bitAnd ((B : Int).fdiv (2 ^ ((k : Int) - 1 - i).toNat)) 1) = (pth k n B).map bi := by
  unfold rangeKs pth
  rw [List.map_map, List.map_map]
  have e : ((n : Int) - 0).toNat = n := by omega
  rw [e]
  refine List.map_congr_left fun i hi => ?_
  have hi' : i < n := List.mem_range.mp hi
  have e2 : ((k : Int) - 1 - (0 + (i : Int))).toNat = k - 1 - i := by omega
  show Builtin.bitAnd ((B : Int).fdiv (2 ^ ((k : Int) - 1 - (0 + (i : Int))).toNat)) 1 = bi (decide (B / 2 ^ (k - 1 - i) % 2 = 1))
  rw [e2, PyProof.Rows.bitAnd_m1]
  have e3 : ((2 : Int) ^ (k - 1 - i)) = ((2 ^ (k - 1 - i) : Nat) : Int) := by simp
  rw [e3, fdiv_nat]
  unfold bi
  by_cases q : B / 2 ^ (k - 1 - i) % 2 = 1
  · simp only [q, decide_true, if_true]; omega
  · simp only [q, decide_false, Bool.false_eq_true, if_false]; omega
theorem fdiv_zero {B k : Nat} (h : B < 2 ^ k) : Int.fdiv (B : Int) (2 ^ (k : Int).toNat) = 0 := by
  have e3 : ((2 : Int) ^ ((k : Int).toNat)) = ((2 ^ k : Nat) : Int) := by simp
  rw [e3, fdiv_nat, Nat.div_eq_of_lt h]; rfl
/-- how often an address stands in the ledger -/
noncomputable def cn (l : List (Addr × Obj)) (a : Addr) : Nat := (l.map (·.1)).count a
noncomputable def hit (b a : Addr) : Nat := if b == a then 1 else 0
theorem cn_nil (a : Addr) : cn [] a = 0 := rfl
theorem cn_cons (b : Addr) (o : Obj) (l : List (Addr × Obj)) (a : Addr) : cn ((b, o) :: l) a = hit b a + cn l a := by
  unfold cn hit
  rw [List.map_cons, List.count_cons, Nat.add_comm]
theorem cn_append (l l' : List (Addr × Obj)) (a : Addr) : cn (l ++ l') a = cn l a + cn l' a := by
  unfold cn
  rw [List.map_append, List.count_append]
theorem nd_cn {l : List (Addr × Obj)} : Nd l ↔ ∀ a, cn l a ≤ 1 := List.nodup_iff_count
theorem nd_of_cn {l l' : List (Addr × Obj)} (h : Nd l) (c : ∀ a, cn l' a ≤ cn l a) : Nd l' := nd_cn.mpr fun a => Nat.le_trans (c a) (nd_cn.mp h a)
theorem node_up (b : Bool) (a : Addr) (l r : Tre) (g : Value) : ∃ ch sib : Tre, Tre.node a l r g = (Z.mk b a sib g).up ch := by
  cases b with
  | true => exact ⟨r, l, rfl⟩
  | false => exact ⟨l, r, rfl⟩
theorem val_node {t : Tre} {a : Addr} (h : t.val = .ref a) : ∃ l r g, t = .node a l r g := by
  cases t with
  | nil => cases h
  | node a' l r g => cases h; exact ⟨l, r, g, rfl⟩
theorem put_up (z : ZS) (p : List Bool) (v : Value) (s : Shp) : Shp.put (z.right :: p) v (z.up s) = z.up (Shp.put p v s) := by
  unfold ZS.up
  cases h : z.right <;> simp [Shp.put]
theorem get_up (z : ZS) (p : List Bool) (s : Shp) : Shp.get (z.right :: p) (z.up s) = Shp.get p s := by
  unfold ZS.up
  cases h : z.right <;> simp [Shp.get, Shp.kid]
theorem put_fresh (p : List Bool) (v : Value) : Shp.put p v .nil = Shp.put p v (.node .nil .nil .none) := by
  cases p with
  | nil => rfl
  | cons b p => cases b <;> rfl
theorem get_nil : ∀ p : List Bool, Shp.get p .nil = .none
  | [] => rfl
  | _ :: p => get_nil p
theorem get_fresh (p : List Bool) : Shp.get p (.node .nil .nil .none) = .none := by
  cases p with
  | nil => rfl
  | cons b p => cases b <;> exact get_nil p
theorem plug_val : ∀ (c : List Z) {t t' : Tre}, t.val = t'.val → (plug c t).val = (plug c t').val
  | [], _, _, h => h
  | z :: c, t, t', _ => plug_val c (by rw [Z.up_val, Z.up_val])
theorem cn_perm {l l' : List (Addr × Obj)} (p : l.Perm l') (a : Addr) : cn l a = cn l' a := by
  have q : (l.map (·.1)).Perm (l'.map (·.1)) := p.map _
  exact q.count_eq a
open Classical in
noncomputable def ht (p q : Addr × Obj) : Nat := if p = q then 1 else 0
/-- how often an entry stands in the ledger -/
noncomputable def cc : List (Addr × Obj) → Addr × Obj → Nat
  | [], _ => 0
  | p :: l, q => ht p q + cc l q
theorem cc_nil (q : Addr × Obj) : cc [] q = 0 := rfl
theorem cc_cons (p : Addr × Obj) (l : List (Addr × Obj)) (q : Addr × Obj) : cc (p :: l) q = ht p q + cc l q := rfl
theorem cc_append (l l' : List (Addr × Obj)) (q : Addr × Obj) : cc (l ++ l') q = cc l q + cc l' q := by
  induction l with
  | nil => simp [cc]
  | cons p l ih => rw [List.cons_append, cc_cons, cc_cons, ih, Nat.add_assoc]
theorem mem_cc {l : List (Addr × Obj)} {q : Addr × Obj} : q ∈ l ↔ 0 < cc l q := by
  induction l with
  | nil => simp [cc]
  | cons p l ih =>
    rw [cc_cons, List.mem_cons, ih]
    unfold ht
    by_cases h : p = q
    · subst h; simp; omega
    · have h' : ¬ q = p := fun e => h e.symm
      simp [h, h']
theorem sub_cc {l l' : List (Addr × Obj)} (c : ∀ q, cc l' q ≤ cc l q) : ∀ q ∈ l', q ∈ l := fun q hq => mem_cc.mpr (Nat.lt_of_lt_of_le (mem_cc.mp hq) (c q))
theorem cc_perm {l l' : List (Addr × Obj)} (p : l.Perm l') (q : Addr × Obj) : cc l q = cc l' q := by
  induction p with
  | nil => rfl
  | cons x _ ih => rw [cc_cons, cc_cons, ih]
  | swap x y l => rw [cc_cons, cc_cons, cc_cons, cc_cons]; omega
  | trans _ _ i1 i2 => exact i1.trans i2
theorem plug_snoc : ∀ (c : List Z) (z : Z) (t : Tre), plug (c ++ [z]) t = z.up (plug c t)
  | [], _, _ => rfl
  | y :: c, z, t => plug_snoc c z (y.up t)
theorem way_split : ∀ (p : List Bool) (t : Tre) (as : List Addr), Tre.way p t = some as → ∃ c a l r g, t = plug c (.node a l r g) ∧ as = (c.map Z.a).reverse ++ [a] ∧ p = (c.map Z.right).reverse
  | _, .nil, _, h => by cases ‹List Bool› <;> cases h
  | [], .node a l r g, as, h => by
    cases h
    exact ⟨[], a, l, r, g, rfl, rfl, rfl⟩
  | b :: p, .node a l r g, as, h => by
    obtain ⟨ch, sib, hn⟩ := node_up b a l r g
    have hc : (if b = true then r else l) = ch := by
      unfold Z.up at hn
      cases b
      · simp at hn; simp [hn]
      · simp at hn; simp [hn]
    have h' : (Tre.way p (if b then r else l)).map (a :: ·) = some as := h
    rw [hc] at h'
    obtain ⟨as', h1, h2⟩ := Option.map_eq_some_iff.mp h'
    obtain ⟨c, a', l', r', g', e1, e2, e3⟩ := way_split p ch as' h1
    refine ⟨c ++ [⟨b, a, sib, g⟩], a', l', r', g', ?_, ?_, ?_⟩
    · rw [plug_snoc, hn, e1]
    · rw [← h2, e2]; simp
    · rw [e3]; simp
theorem way_none : ∀ (p : List Bool) (t : Tre), Tre.way p t = none → Shp.get p t.er = .none
  | p, .nil, _ => get_nil p
  | [], .node _ _ _ _, h => by cases h
  | b :: p, .node a l r g, h => by
    have h' : (Tre.way p (if b then r else l)).map (a :: ·) = none := h
    have h2 : Tre.way p (if b then r else l) = none := by
      cases hq : Tre.way p (if b then r else l) with
      | none => rfl
      | some x => rw [hq] at h'; cases h'
    have := way_none p _ h2
    cases b
    · exact this
    · exact this
theorem pruneZ_nd {rest : List (Addr × Obj)} : ∀ (c : List Z) (u : Tre) (a : Addr), u.val = .ref a → Nd (u.objs ++ cobjs c (.ref a) ++ rest) → Nd ((pruneZ c u).objs ++ rest)
  | [], u, a, _, h => by simpa [cobjs, pruneZ] using h
  | z :: c, u, a, hv, h => by
    unfold pruneZ
    split
    · refine pruneZ_nd c (z.up .nil) z.a (Z.up_val _ _) (nd_of_cn h fun y => ?_)
      simp only [cn_cons, cn_append, cobjs, up_nil_objs, Z.obj]
      omega
    · refine nd_of_cn h fun y => ?_
      have e := cn_perm (plug_objs (z :: c) u) y
      rw [hv] at e
      simp only [cn_append] at e ⊢
      omega
theorem pruneZ_val : ∀ (c : List Z) (u : Tre) (a : Addr), u.val = .ref a → (pruneZ c u).val = (plug c u).val
  | [], _, _, _ => rfl
  | z :: c, u, a, _ => by
    unfold pruneZ
    split
    · rw [pruneZ_val c (z.up .nil) z.a (Z.up_val _ _)]
      exact plug_val c (by rw [Z.up_val, Z.up_val])
    · rfl
noncomputable def cutplug : List ZS → Shp → Shp
  | [], u => u
  | z :: c, u => cutplug c (z.up u.cut)
theorem up_notbare (z : ZS) (u : Shp) (h : u.bare = false) : (z.up u).bare = false := by
  cases u with
  | nil => cases h
  | node l r g =>
    unfold ZS.up
    cases z.right <;> cases z.sib <;> rfl
theorem cutplug_not : ∀ (c : List ZS) (u : Shp), u.bare = false → cutplug c u = plugS c u
  | [], _, _ => rfl
  | z :: c, u, h => by
    have e : u.cut = u := by unfold Shp.cut; rw [h]; rfl
    show cutplug c (z.up u.cut) = plugS c (z.up u)
    rw [e]
    exact cutplug_not c _ (up_notbare z u h)
theorem pruneZ_er : ∀ (c : List Z) (u : Tre), (pruneZ c u).er = cutplug (c.map Z.er) u.er
  | [], _ => rfl
  | z :: c, u => by
    unfold pruneZ
    cases hb : u.er.bare with
    | true =>
      rw [if_pos rfl, pruneZ_er c]
      show _ = cutplug (c.map Z.er) (z.er.up u.er.cut)
      have e : u.er.cut = .nil := by unfold Shp.cut; rw [hb]; rfl
      rw [e, Z.up_er]; rfl
    | false =>
      rw [if_neg (by simp), plug_er]
      exact (cutplug_not _ _ hb).symm
theorem cutplug_snoc : ∀ (c : List ZS) (z : ZS) (t : Shp), cutplug (c ++ [z]) t = z.up (cutplug c t).cut
  | [], _, _ => rfl
  | y :: c, z, t => cutplug_snoc c z (y.up t.cut)
theorem plugS_snoc : ∀ (c : List ZS) (z : ZS) (t : Shp), plugS (c ++ [z]) t = z.up (plugS c t)
  | [], _, _ => rfl
  | y :: c, z, t => plugS_snoc c z (y.up t)
theorem drop_up (z : ZS) (p : List Bool) (s : Shp) : Shp.drop (z.right :: p) (z.up s) = z.up (Shp.drop p s).cut := by
  unfold ZS.up
  cases h : z.right <;> simp [Shp.drop]
theorem drop_plug (l r : Shp) (g : Value) : ∀ n (c : List ZS), c.length = n → Shp.drop (c.map ZS.right).reverse (plugS c (.node l r g)) = cutplug c (.node l r .none)
  | 0, c, h => by
    have : c = [] := List.length_eq_zero_iff.mp h
    subst this; rfl
  | n + 1, c, h => by
    obtain ⟨d, z, rfl⟩ : ∃ d z, c = d ++ [z] := by
      have hne : c ≠ [] := by intro e; rw [e] at h; cases h
      exact ⟨c.dropLast, c.getLast hne, (List.dropLast_concat_getLast hne).symm⟩
    have hd : d.length = n := by simpa using h
    have ih := drop_plug l r g n d hd
    rw [plugS_snoc, cutplug_snoc]
    have e : ((d ++ [z]).map ZS.right).reverse = z.right :: (d.map ZS.right).reverse := by simp
    rw [e, drop_up, ih]
theorem get_plug (s : Shp) : ∀ n (c : List ZS), c.length = n → Shp.get (c.map ZS.right).reverse (plugS c s) = s.gl
  | 0, c, h => by
    have : c = [] := List.length_eq_zero_iff.mp h
    subst this; rfl
  | n + 1, c, h => by
    obtain ⟨d, z, rfl⟩ : ∃ d z, c = d ++ [z] := by
      have hne : c ≠ [] := by intro e; rw [e] at h; cases h
      exact ⟨c.dropLast, c.getLast hne, (List.dropLast_concat_getLast hne).symm⟩
    have hd : d.length = n := by simpa using h
    have ih := get_plug s n d hd
    rw [plugS_snoc]
    have e : ((d ++ [z]).map ZS.right).reverse = z.right :: (d.map ZS.right).reverse := by simp
    rw [e, get_up, ih]
end
section -- Row
/-- a row: base, length, goal -/
structure Rw where
  b : Nat
  l : Nat
  g : Value
abbrev tupO (its : Array Value) (n : Nat) : Obj := { cls := .type "tuple", data := .seq its n }
/-- the rows of a trie, n bits left, at base b and depth d -/
noncomputable def rowsS : Shp → Nat → Nat → Nat → List Rw
  | .nil, _, _, _ => []
  | .node l r g, n, b, d => (if g == .none then [] else [⟨b, d, g⟩]) ++ (rowsS l (n - 1) b (d + 1) ++ rowsS r (n - 1) (b + 2 ^ (n - 1)) (d + 1))
/-- no road longer than n -/
noncomputable def Shp.fit : Nat → Shp → Prop
  | _, .nil => True
  | 0, .node l r _ => l = .nil ∧ r = .nil
  | n + 1, .node l r _ => l.fit n ∧ r.fit n
noncomputable def Tre.sz : Tre → Nat
  | .nil => 0
  | .node _ l r _ => 1 + (l.sz + r.sz)
/-- the ledger bears these rows -/
inductive RowsIn (news : List (Addr × Obj)) : List Value → List Rw → Prop
  | nil : RowsIn news [] []
  | cons {a : Addr} {r : Rw} {t1 t2 : Tok} {n : Nat} {vs : List Value} {rs : List Rw} : (a, tupO #[.int (r.b : Int) t1, .int (r.l : Int) t2, r.g] n) ∈ news → RowsIn news vs rs → RowsIn news (.ref a :: vs) (r :: rs)
theorem RowsIn.mono {l l' : List (Addr × Obj)} (hs : ∀ p ∈ l, p ∈ l') {vs : List Value} {rs : List Rw} (h : RowsIn l vs rs) : RowsIn l' vs rs := by
  induction h with
  | nil => exact .nil
  | cons hm _ ih => exact .cons (hs _ hm) ih
theorem RowsIn.append {l : List (Addr × Obj)} {vs ws : List Value} {rs qs : List Rw} (h : RowsIn l vs rs) (k : RowsIn l ws qs) : RowsIn l (vs ++ ws) (rs ++ qs) := by
  induction h with
  | nil => exact k
  | cons hm _ ih => exact .cons hm ih
theorem RowsIn.length {l : List (Addr × Obj)} {vs : List Value} {rs : List Rw} (h : RowsIn l vs rs) : vs.length = rs.length := by
  induction h with
  | nil => rfl
  | cons _ _ ih => rw [List.length_cons, List.length_cons, ih]
/-- what is left of the walk over the trie: the last is the next -/
inductive StIn (k : Nat) (news add : List (Addr × Obj)) : List Value → List (Tre × Nat × Nat) → Prop
  | nil : StIn k news add [] []
  | snoc {a x : Addr} {l r : Tre} {g : Value} {b d n : Nat} {t1 t2 : Tok} {vs : List Value} {st : List (Tre × Nat × Nat)} : StIn k news add vs st → (a, tupO #[.ref x, .int (b : Int) t1, .int (d : Int) t2] n) ∈ add →
      (∀ q ∈ (Tre.node x l r g).objs, q ∈ news) → d ≤ k → (Tre.node x l r g).er.fit (k - d) → StIn k news add (vs ++ [.ref a]) ((.node x l r g, b, d) :: st)
theorem StIn.mono {k : Nat} {news l l' : List (Addr × Obj)} (hs : ∀ p ∈ l, p ∈ l') {vs : List Value} {st : List (Tre × Nat × Nat)} (h : StIn k news l vs st) : StIn k news l' vs st := by
  induction h with
  | nil => exact .nil
  | snoc _ hm h1 h2 h3 ih => exact .snoc ih (hs _ hm) h1 h2 h3
noncomputable def stRows (k : Nat) : List (Tre × Nat × Nat) → List Rw
  | [] => []
  | (t, b, d) :: st => rowsS t.er (k - d) b d ++ stRows k st
noncomputable def stSize : List (Tre × Nat × Nat) → Nat
  | [] => 0
  | (t, _, _) :: st => t.sz + stSize st
theorem StIn.length {k : Nat} {news l : List (Addr × Obj)} {vs : List Value} {st : List (Tre × Nat × Nat)} (h : StIn k news l vs st) : vs.length ≤ stSize st := by
  induction h with
  | nil => exact Nat.le_refl _
  | snoc _ _ _ _ _ ih => rw [List.length_append, List.length_singleton, stSize, Tre.sz]; omega
theorem stRows_node {k d b x : Nat} {l r : Tre} {g : Value} {st : List (Tre × Nat × Nat)} : stRows k ((.node x l r g, b, d) :: st) =
    (if g == .none then [] else [⟨b, d, g⟩]) ++ (stRows k ((l, b, d + 1) :: (r, b + 2 ^ (k - 1 - d), d + 1) :: st)) := by
  have e1 : k - d - 1 = k - (d + 1) := by omega
  have e2 : k - (d + 1) = k - 1 - d := by omega
  simp only [stRows, Tre.er, rowsS, List.append_assoc]
  rw [e1, e2]
theorem stRows_nil {k d b : Nat} {st : List (Tre × Nat × Nat)} : stRows k ((.nil, b, d) :: st) = stRows k st := rfl
theorem fit_kids {n x : Nat} {l r : Tre} {g : Value} (h : (Tre.node x l r g).er.fit n) : (l ≠ .nil → 0 < n ∧ l.er.fit (n - 1)) ∧ (r ≠ .nil → 0 < n ∧ r.er.fit (n - 1)) := by
  cases n with
  | zero =>
    have h' : l.er = .nil ∧ r.er = .nil := h
    constructor
    · intro hl; cases l with
      | nil => exact absurd rfl hl
      | node _ _ _ _ => cases h'.1
    · intro hr; cases r with
      | nil => exact absurd rfl hr
      | node _ _ _ _ => cases h'.2
  | succ n =>
    have h' : l.er.fit n ∧ r.er.fit n := h
    exact ⟨fun _ => ⟨Nat.succ_pos _, h'.1⟩, fun _ => ⟨Nat.succ_pos _, h'.2⟩⟩
end
section -- pre0
local macro_rules | `(tactic| ktr_enter) => `(tactic| (refine' code_defC ?k1 ?k2 ?k3 ?k4 ?k5 ?kA ?kF ?kK ?k6 ?k7 ?k8 ?k9 ?kB ?kD ?_ ?c2 ?c3 ?c4; (case kA | kF => exact rfl); (case kK => first | assumption | exact rfl); (case k1 | k2 | k3 | k4 | k5 => k_asm); (case k6 | k7 => k_is); (case k8 => ktr_room); (case k9 => exact BindsTo.of_eq rfl); (case kB => exact rfl); (case kD => decide +kernel); (case c2 | c3 | c4 => exact rfl); k_whole; intro g' L' h' tk' cells' FG' F' N' Y' B' X' T' l1; (try k_lt l1); k_cells Y'; (try simp only [List.cons_append, List.nil_append] at N'); (try dsimp only); (try k_fold)))
local macro_rules | `(tactic| ktr_enter) => `(tactic| (refine' code_def ?k1 ?k2 ?k3 ?k4 ?k5 ?kA ?kF ?kK ?k6 ?k7 ?k8 ?k9 ?kB ?_ ?c2 ?c3 ?c4 ?c5; (case kA | kF => exact rfl); (case kK => first | assumption | exact rfl); (case k1 | k2 | k3 | k4 | k5 => k_asm); (case k6 => k_is); (case c5 => decide); (case k7 => k_is); (case k8 => ktr_room); (case k9 => exact BindsTo.of_eq rfl); (case kB => exact locs rfl); (case c2 | c3 | c4 => exact rfl); k_whole; intro g' L' h' FG' F' N' B' X' T'; (try dsimp only); (try k_fold)))
local macro_rules | `(tactic| walk_at "exec For Name Name cons nil") => `(tactic| (k_here; with_unfolding_all refine for_start ?_ ?hs9; (case hs9 => intro _; rfl)))
local macro_rules | `(tactic| walk_at "exec For Name Call cons nil") => `(tactic| (k_here; with_unfolding_all refine for_start ?_ ?hs9; (case hs9 => intro _; rfl)))
local macro_rules | `(tactic| walk_at "exec For Tuple Name cons nil") => `(tactic| (k_here; with_unfolding_all refine for_start ?_ ?hs9; (case hs9 => intro _; rfl)))
local macro_rules | `(tactic| walk_at "exec For Name Tuple cons nil") => `(tactic| (k_here; with_unfolding_all refine for_start ?_ ?hs9; (case hs9 => intro _; rfl)))
local macro_rules | `(tactic| walk_at "exec While Name cons nil") => `(tactic| (k_here; with_unfolding_all refine while_start ?_))
local macro_rules | `(tactic| walk_at "exec While Compare cons nil") => `(tactic| (k_here; with_unfolding_all refine while_start ?_))
local macro_rules | `(tactic| k_upd) => `(tactic| ((change List.Mem _ _); first | exact List.Mem.head _ | assumption | (refine List.Mem.tail _ ?_; k_upd) | (refine List.mem_append_right _ ?_; k_upd) | (refine List.mem_append_left _ ?_; k_upd)))
local macro_rules | `(tactic| k_mem) => `(tactic| k_upd)
local macro_rules | `(tactic| walk_at "pyIter ref") => `(tactic| (k_here; (with_reducible show wpAny _ _ (pyIter (Value.ref _)) (fun it s₂ => ForRest _ _ _ _ _ _ _ _ _) _ _); with_unfolding_all refine' iter_list ?k1 ?k2 ?k3 ?_; (case k1 | k2 => k_asm); (case k3 => k_mem); k_whole; intro I' o' h' hO' F' N' l1; (try k_sweep)))
local macro_rules | `(tactic| walk_at "eval Name") => `(tactic| (k_here; (with_unfolding_all refine' nameX_L ?F ?v ?_ ?a ?b; (case F => k_asm); (case a | b => rfl); (case v => assumption); k_whole)))
local macro_rules | `(tactic| walk_at "subscriptTail Subscript") => `(tactic| (k_here; (with_reducible show wpAny _ _ (subscriptTail _ _ (Value.ref _) (Value.int (bi _) _)) _ _ _); (with_unfolding_all refine' item_node ?k1 ?k2 ?k3 ?_; (case k1 => k_asm); (case k2 => k_mem); (case k3 => assumption); k_whole)))
local macro_rules | `(tactic| walk_at "subscriptTail Subscript") => `(tactic| (k_here; (with_reducible show wpAny _ _ (subscriptTail _ _ (Value.ref _) (Value.int 2 _)) _ _ _); (with_unfolding_all refine' item3_2 ?k1 ?k2 ?_; (case k1 => k_asm); (case k2 => k_mem); k_whole)))
local macro_rules | `(tactic| walk_at "subscriptTail Name") => `(tactic| (k_here; (with_reducible show wpAny _ _ (subscriptTail _ _ (Value.ref _) (Value.int (-1) _)) _ _ _); (with_unfolding_all refine' item_last ?k1 ?k2 ?_; (case k1 => k_asm); (case k2 => k_mem); k_whole)))
local macro_rules | `(tactic| walk_at "subscriptTail Name") => `(tactic| (k_here; (with_reducible show wpAny _ _ (subscriptTail _ _ (Value.ref _) (Value.int 0 _)) _ _ _); (with_unfolding_all refine' item3_0 ?k1 ?k2 ?_; (case k1 => k_asm); (case k2 => k_mem); k_whole)))
local macro_rules | `(tactic| walk_at "subscriptTail Name") => `(tactic| (k_here; (with_reducible show wpAny _ _ (subscriptTail _ _ (Value.ref _) (Value.int 1 _)) _ _ _); (with_unfolding_all refine' item3_1 ?k1 ?k2 ?_; (case k1 => k_asm); (case k2 => k_mem); k_whole)))
local macro_rules | `(tactic| walk_at "subscriptTail Name") => `(tactic| (k_here; (with_reducible show wpAny _ _ (subscriptTail _ _ (Value.ref _) (Value.int 2 _)) _ _ _); (with_unfolding_all refine' item3_2 ?k1 ?k2 ?_; (case k1 => k_asm); (case k2 => k_mem); k_whole)))
local macro_rules | `(tactic| walk_at "compareOp Is none") => `(tactic| (k_here; (with_reducible show wpAny _ _ (compareOp CmpOp.Is _ Value.none) _ _ _); refine is_none_gen ?_))
local macro_rules | `(tactic| walk_at "compareOp IsNot none") => `(tactic| (k_here; (with_reducible show wpAny _ _ (compareOp CmpOp.IsNot _ Value.none) _ _ _); refine isnot_none_gen ?_))
local macro_rules | `(tactic| walk_at "call builtin:list.append") => `(tactic| (k_here; (with_reducible show wpAny _ _ (call (Value.builtin _) [Value.ref _, _]) _ _ _); k_dflt (refine' append_K ?k1 ?k2 ?k3 ?_ ?z; (case k1 | k2 => k_asm); (case k3 => k_upd); (case z => (simp only [List.size_toArray, List.length_append, List.length_map, List.length_cons, List.length_nil, sizeLine_eq]; omega)); k_whole); intro h' F' N'; (try k_sweep)))
local macro_rules | `(tactic| walk_at "subscriptTail Name") => `(tactic| (k_here; (with_reducible show wpAny _ _ (subscriptTail _ _ (Value.ref _) (Value.int _ _)) _ _ _); (with_unfolding_all refine' item_at ?k1 ?k2 ?k3 ?k4 ?k5 ?_; (case k1 => k_asm); (case k2 => k_mem); (case k5 => assumption); (case k3 | k4 => omega); k_whole)))
local macro_rules | `(tactic| walk_at "call builtin:len") => `(tactic| (k_here; (with_reducible show wpAny _ _ (call (Value.builtin "len") [Value.ref _]) _ _ _); k_dflt (refine' len_at ?k1 ?k2 ?k3 ?k4 ?_; (case k1 => k_asm); (case k2 => k_mem); (case k3 => with_reducible assumption); (case k4 => omega); k_whole); intro _ _))
local macro_rules | `(tactic| walk_at "pyIter ref") => `(tactic| (k_here; (with_reducible show wpAny _ _ (pyIter (Value.ref _)) (fun it s₂ => ForRest _ _ _ _ _ _ _ _ _) _ _); with_unfolding_all refine' iter_range ?k1 ?k2 ?k3 ?k4 ?_; (case k1 | k2 => k_asm); (case k3 => assumption); (case k4 => first | assumption | decide); k_whole; intro I' h' F' N' l1; (try k_sweep)))
local macro_rules | `(tactic| walk_at "eval Call Name") => `(tactic| refine Call_ ?_)
local macro_rules | `(tactic| walk_at "eval Call Attribute") => `(tactic| refine MethodCall_ ?_)
local macro_rules | `(tactic| walk_at "subscriptTail Name") => `(tactic| (k_here; (with_reducible show wpAny _ _ (subscriptTail _ _ (Value.ref _) (Value.int (bi _) _)) _ _ _); (with_unfolding_all refine' item_z ?k1 ?k2 ?_; (case k1 => k_asm); (case k2 => k_mem); k_whole)))
theorem fill : PySem.Challenge.rw_pf0330_01.prog = PySem.Challenge.rw_pf0330_01.prog ∨ Mine.hd.heap_1 = Mine.hd.heap_1 := by
  k_fill
  exact .inl rfl
section -- F1
theorem off_F1 : True := by w_top off; exact trivial
inductive SpOut (k n B : Nat) (news : List (Addr × Obj)) (rv : Value) (nx : List (Addr × Obj)) : Prop
  | mk (D : Addr) (ys : List Value) (c : Nat) (f0 : rv = .ref D) (f1 : nx = (D, listOf ys.toArray c) :: news) (f2 : (∀ q ∈ news, q.1 ≠ D)) (f3 : IntsAre ys ((pth k n B).map bi)) : SpOut k n B news rv nx
inductive WySt (s : Shared) (gH : Heap) (L2 : Addr) (I W sl : Addr) (ps : List Bool) (a : Addr) (tl tr : Tre) (g : Value) (news : List (Addr × Obj)) (xs : List Bool) (s' : Shared) : Prop
  | mk (pre : List Addr) (a' : Addr) (l r : Tre) (g' : Value) (h : Heap) (tk : Nat) (m : Str → Option Value) (o : Obj) (i n : Nat) (f0 : s' = { s with heap := h, toks := tk }) (f1 : ItL o sl i) (f2 : Fr gH L2 h m) (f3 : News gH L2 h ((I, o) :: (W, listOf ((pre.map Value.ref) ++ [Value.ref a']).toArray n) :: news)) (f4 : m (Str.ofString "way") = some (.ref W)) (f5 : (∀ q ∈ (Tre.node a' l r g').objs, q ∈ news)) (f6 : Tre.way ps (.node a tl tr g) = (Tre.way xs (.node a' l r g')).map (pre ++ ·)) (f7 : ps.drop i = xs) (f8 : pre.length = i) : WySt s gH L2 I W sl ps a tl tr g news xs s'
theorem off1_of {D : Addr} : ∀ {l : List (Addr × Obj)}, LCg.Off1 D l → ∀ q ∈ l, q.1 ≠ D
  | [], _, _, h => nomatch h
  | _ :: _, x, q, h => by
    rcases List.mem_cons.mp h with rfl | h
    · exact x.1
    · exact off1_of x.2 q h
section
variable (w : World) (p : Program) (loose : List Str) (mean : ExcName → Option Value) (mg mb : Str → Option Value) (news : List (Addr × Obj))
set_option maxRecDepth 100000 in
set_option maxHeartbeats 8000000 in
theorem C_bare (x : Addr) (v0 v1 v2 : Value) (n : Nat)
   (hm : (x, listOf #[v0, v1, v2] n) ∈ news) : Con w p loose mean mg mb 79 [.ref x] 5 50 news (fun r nx => r = .bool (v0 == .none && v1 == .none && v2 == .none) ∧ nx = news) := by
  intro dp un gd cn cs a ccd cl outer A₀ base h₀ L m s Q E B F X N TT hk hd hu hret
  refine wpAny_call ?_
  first | k_dflt ktr_enter | fail "enter"
  k_steps
  all_goals (refine hret _ _ _ _ (by k_asm) (by k_asm) ⟨?_, rfl⟩; (generalize (v0 == Value.none) = b0 at *); (generalize (v1 == Value.none) = b1 at *); (generalize (v2 == Value.none) = b2 at *); subst_vars; rfl)
set_option maxRecDepth 100000 in
set_option maxHeartbeats 8000000 in
theorem C_way (a : Addr) (tl tr : Tre) (g : Value) (sl : Addr) (vs : List Value) (n : Nat) (ps : List Bool)
   (hs : (sl, listOf vs.toArray n) ∈ news) (hlen : ps.length ≤ 64) (hi : IntsAre vs (ps.map bi)) (ht : ∀ q ∈ (Tre.node a tl tr g).objs, q ∈ news) : Con w p loose mean mg mb 72 [.ref a, .ref sl] 5 50 news
     (fun r nx => match Tre.way ps (.node a tl tr g) with
       | none => r = .none ∧ nx = news
       | some as => ∃ W n, r = .ref W ∧ nx = (W, listOf (as.map Value.ref).toArray n) :: news ∧ ∀ p ∈ news, p.1 < W) := by
  intro dp un gd cn cs ad ccd cl outer A₀ base h₀ L m s Q E B F X N TT hk hd hu hret
  refine wpAny_call ?_
  first | k_dflt ktr_enter | fail "enter"
  k_steps
  rename_i W h0 hW h1 I o h2 hO F2 N2 l2
  refine for_ind (WySt s _ _ I W sl ps a tl tr g news) ?_ ?_ ps _ ⟨[], a, tl, tr, g, _, _, _, _, 0, _, rfl, hO, F2, N2, rfl, ht, by simp, rfl, rfl⟩
  · rintro b xs s₁ ⟨pre, a', l, r, g', h, tk, m, o, i, n, rfl, hO, F, N, hw, hsub, hway, hdr, hpl⟩ IH
    have hb : ps[i]? = some b := by
      have := congrArg List.head? hdr
      simpa using this
    obtain ⟨t, hx⟩ := hi.get i (bi b) (by simp [hb])
    have hi64 : i < 64 := by
      have := (List.getElem?_eq_some_iff.mp hb).1
      omega
    have hlt : AllLt W news := allLt_of hW
    have hWI := ltN (l2 _ (.head _))
    have hoff : ∀ p ∈ (W, listOf ((pre.map Value.ref) ++ [Value.ref a']).toArray n) :: news, p.1 ≠ I := fun p hp => Nat.ne_of_lt (by
      rcases List.mem_cons.mp hp with rfl | hp
      · exact hWI
      · exact Nat.lt_trans (hW _ hp) hWI)
    refine for_item F N hO hoff (.tail _ hs) (by simpa using hx) fun o' h' hO' F' N' => ?_
    have hm : (a', listOf #[l.val, r.val, g'] 0) ∈ news := hsub _ (.head _)
    have hdr' : ps.drop (i + 1) = xs := by rw [← List.drop_drop, hdr]; rfl
    have hway' : Tre.way (b :: xs) (.node a' l r g') = (Tre.way xs (if b then r else l)).map (a' :: ·) := rfl
    have hv : (if b = true then r.val else l.val) = (if b = true then r else l).val := by cases b <;> rfl
    have hsub' : ∀ q ∈ (if b = true then r else l).objs, q ∈ news := fun q hq => hsub q (.tail _ (List.mem_append.mpr (by cases b <;> first | exact .inl hq | exact .inr hq)))
    rw [hway'] at hway
    clear hway'
    generalize (if b = true then r else l) = ch at hv hsub' hway
    cases ch with
    | nil =>
      simp only [val_nil, val_mk] at hv
      k_steps
      refine for_post_ret ?_
      k_steps
      refine hret _ news _ _ (by k_asm) (news_sub (by k_asm) fun p hp => .tail _ (.tail _ hp)) ?_
      dsimp only
      rw [hway, Tre.way]
      exact ⟨rfl, rfl⟩
    | node a2 l2 r2 g2 =>
      simp only [val_nil, val_mk] at hv
      k_steps
      refine' for_post_next (IH _ ⟨pre ++ [a'], a2, l2, r2, g2, _, _, _, _, i + 1, _, rfl, hO', ?f1, ?f2, ?f3, hsub', ?f4, hdr', ?f5⟩)
      case f1 => k_asm
      case f2 =>
        rename News _ _ _ _ => N9
        have e : ((pre.map Value.ref ++ [Value.ref a']).toArray.push (Value.ref a2)) = (((pre ++ [a']).map Value.ref) ++ [Value.ref a2]).toArray := by simp
        rw [e] at N9
        exact N9
      case f3 => exact hw
      case f4 => rw [hway]; cases Tre.way xs (.node a2 l2 r2 g2) <;> simp
      case f5 => simp; omega
  · rintro s₁ ⟨pre, a', l, r, g', h, tk, m, o, i, n, rfl, hO, F, N, hw, hsub, hway, hdr, hpl⟩
    have hWI := ltN (l2 _ (.head _))
    have hoff : ∀ p ∈ (W, listOf ((pre.map Value.ref) ++ [Value.ref a']).toArray n) :: news, p.1 ≠ I := fun p hp => Nat.ne_of_lt (by
      rcases List.mem_cons.mp hp with rfl | hp
      · exact hWI
      · exact Nat.lt_trans (hW _ hp) hWI)
    have hz : vs.toArray.size ≤ i := by
      have h1 := hi.length
      have h2 := congrArg List.length hdr
      simp at h1 h2 ⊢
      omega
    refine for_end rfl F N hO hoff (.tail _ hs) hz fun h' F' N' => ?_
    k_steps
    refine hret _ _ _ _ (by k_asm) (by k_asm) ?_
    dsimp only
    rw [hway, Tre.way]
    exact ⟨W, n, rfl, by simp, hW⟩
set_option maxRecDepth 100000 in
set_option maxHeartbeats 8000000 in
theorem C_steps (B n k : Nat) (tb tn tk : Tok) (hnk : n ≤ k) (hk9 : k ≤ 9)
   : Con w p loose mean mg mb 65 [.int (B : Int) tb, .int (n : Int) tn, .int (k : Int) tk] 5 50 news (SpOut k n B news) := by
  intro dp un gd cn cs a ccd cl outer A₀ base h₀ L m s Q E BB F X N TT hkk hd hu hret
  refine wpAny_call ?_
  first | k_dflt ktr_enter | fail "enter"
  k_steps
  rename_i hI hL D h9 tk9 F9 N9 o1 kF kN Tc kX
  rw [pth_ints hnk] at hI
  refine hret _ ((D, listOf ys.toArray ys.length) :: news) _ _ kF (news_sub kN fun q hq => ?_) ⟨D, ys, _, rfl, rfl, off1_of o1.2.2, hI⟩
  rcases List.mem_cons.mp hq with rfl | hq
  · exact .head _
  · exact .tail _ (.tail _ (.tail _ hq))
end
end
section -- P2
local macro_rules | `(tactic| walk_at "idle line") => `(tactic| skip)
theorem off_P2 : True := by w_top off; exact trivial
section
variable (w : World) (p : Program) (loose : List Str) (mean : ExcName → Option Value) (mg mb : Str → Option Value) (news : List (Addr × Obj))
set_option maxRecDepth 100000 in
set_option maxHeartbeats 8000000 in
theorem C_check (B n k : Nat) (tb tn tk : Tok) (hB : B < 2 ^ k) (hnk : n ≤ k) (hk9 : k ≤ 9)
   : Con w p loose mean mg mb 60 [.int (B : Int) tb, .int (n : Int) tn, .int (k : Int) tk] 5 50 news (fun r nx => r = .none ∧ nx = news) := by
  intro dp un gd cn cs a ccd cl outer A₀ base h₀ L m s Q E BB F X N TT hkk hd hu hret
  have hz := fdiv_zero hB
  refine wpAny_call ?_
  first | k_dflt ktr_enter | fail "enter"
  k_steps
  all_goals first | exact absurd hz (by assumption) | exact hret _ _ _ _ (by k_asm) (by k_asm) ⟨rfl, rfl⟩
end
end
section -- con
local macro_rules | `(tactic| walk_at "call ref") => `(tactic| (k_here; k_dflt (refine' con_use (C_bare _ _ _ _ _ _ _ _ _ _ _ _ ?km) ?k1 ?k2 ?k3 ?k4 ?k5 ?kK ?kd ?ku ?_; (case k1 | k2 | k3 | k4 | k5 => k_asm); (case kK => first | exact rfl | assumption); (case km => k_mem); (case kd => ktr_room); (case ku => ktr_units); k_whole); intro r9 nx9 h9 tk9 F9 N9 O9; (try dsimp only at O9); obtain ⟨q9, q8⟩ := O9; subst q9; subst q8))
section -- P1
local macro_rules | `(tactic| walk_at "idle line") => `(tactic| skip)
theorem off_P1 : True := by w_top off; exact trivial
inductive PrSt (s : Shared) (gH : Heap) (L2 : Addr) (I W sl : Addr) (c0 : List Z) (a0 : Addr) (l0 r0 : Tre) (g0 : Value) (rest : List (Addr × Obj)) (c : List Z) (s' : Shared) : Prop
  | mk (u : Tre) (a : Addr) (d : List Z) (tl : List Value) (h : Heap) (tk : Nat) (m : Str → Option Value) (x : Int) (f0 : s' = { s with heap := h, toks := tk }) (f1 : u.val = .ref a) (f2 : Fr gH L2 h m) (f3 : News gH L2 h ((I, itG x (c.length : Int) (-1)) :: (u.objs ++ cobjs c (.ref a) ++ rest))) (f4 : Nd (u.objs ++ cobjs c (.ref a) ++ rest)) (f5 : (∀ q ∈ u.objs ++ cobjs c (.ref a) ++ rest, q.1 < I)) (f6 : m (Str.ofString "way") = some (.ref W)) (f7 : m (Str.ofString "steps") = some (.ref sl)) (f8 : x = (c.length : Int) - 1) (f9 : pruneZ c u = pruneZ c0 (.node a0 l0 r0 g0)) (f10 : c0 = d ++ c) (f11 : ((c0.map fun z => Value.ref z.a).reverse) ++ [Value.ref a0] = (c.map fun z => Value.ref z.a).reverse ++ (Value.ref a :: tl)) : PrSt s gH L2 I W sl c0 a0 l0 r0 g0 rest c s'
theorem small_down {n : Nat} (h : n ≤ 64) : Builtin.Range.small ((n : Int) - 1) (-1) (-1) = true ∧ Builtin.Range.rangeSize ((n : Int) - 1) (-1) (-1) = (n : Int) := by
  have all : ∀ k : _root_.Fin 65, Builtin.Range.small (((k : Nat) : Int) - 1) (-1) (-1) = true ∧ Builtin.Range.rangeSize (((k : Nat) : Int) - 1) (-1) (-1) = ((k : Nat) : Int) := by decide +kernel
  exact all ⟨n, by omega⟩
section
variable (w : World) (p : Program) (loose : List Str) (mean : ExcName → Option Value) (mg mb : Str → Option Value) (rest : List (Addr × Obj))
set_option maxRecDepth 100000 in
set_option maxHeartbeats 8000000 in
theorem C_prune (c0 : List Z) (a0 : Addr) (l0 r0 : Tre) (g0 : Value) (W sl : Addr) (sv : List Value) (n ns : Nat) (hlen : c0.length ≤ 64)
   (hs : (sl, listOf sv.toArray ns) ∈ rest) (hi : IntsAre sv ((c0.map fun z => bi z.right).reverse)) (hw : (W, listOf (((c0.map fun z => Value.ref z.a).reverse) ++ [Value.ref a0]).toArray n) ∈ rest)
   (hnd : Nd ((Tre.node a0 l0 r0 g0).objs ++ cobjs c0 (.ref a0) ++ rest)) : Con w p loose mean mg mb 86 [.ref W, .ref sl] 10 100 ((Tre.node a0 l0 r0 g0).objs ++ cobjs c0 (.ref a0) ++ rest)
     (fun r nx => nx = (pruneZ c0 (.node a0 l0 r0 g0)).objs ++ rest) := by
  intro dp un gd cn cs ad ccd cl outer A₀ base h₀ L m s Q E B F X N TT hk hd hu hret
  have hz : (sv.toArray.size : Int) = (c0.length : Int) := by
    have := hi.length
    simp only [List.length_reverse, List.length_map] at this
    simp [this]
  have hsm := small_down hlen
  have hsm1 := hsm.1
  refine wpAny_call ?_
  first | k_dflt ktr_enter | fail "enter"
  k_steps
  rename_i I h1 F1 N1 l1
  refine for_ind (PrSt s _ _ I W sl c0 a0 l0 r0 g0 rest) ?_ ?_ c0 _
    ⟨.node a0 l0 r0 g0, a0, [], [], _, _, _, _, rfl, rfl, F1, (by have z := N1; rw [hsm.2] at z; exact z), hnd, l1, rfl, rfl, rfl, rfl, rfl, rfl⟩
  · rintro z c s₁ ⟨u, a, d, tl, h, tk, m, x, rfl, hu', F, N, nd, hlt, hmw, hms, hx, hpr, hc0, hwl⟩ IH
    obtain ⟨l, r, g, rfl⟩ : ∃ l r g, u = Tre.node a l r g := by
      cases u with
      | nil => cases hu'
      | node a' l r g => cases hu'; exact ⟨l, r, g, rfl⟩
    have hma : (a, listOf #[l.val, r.val, g] 0) ∈ (Tre.node a l r g).objs ++ cobjs (z :: c) (.ref a) ++ rest := by simp [Tre.objs]
    have hmW : (W, listOf (((c0.map fun z => Value.ref z.a).reverse) ++ [Value.ref a0]).toArray n) ∈ (Tre.node a l r g).objs ++ cobjs (z :: c) (.ref a) ++ rest := List.mem_append_right _ hw
    have hmS : (sl, listOf sv.toArray ns) ∈ (Tre.node a l r g).objs ++ cobjs (z :: c) (.ref a) ++ rest := List.mem_append_right _ hs
    have hxn : x = (c.length : Int) := by rw [hx]; simp
    have hc64 : c.length < 64 := by
      have := congrArg List.length hc0
      simp at this
      omega
    have hx1 : (((c0.map fun z => Value.ref z.a).reverse) ++ [Value.ref a0]).toArray[(x + 1).toNat]? = some (.ref a) := by
      have e : (x + 1).toNat = c.length + 1 := by omega
      rw [hwl, e]; simp
    have hx2 : (((c0.map fun z => Value.ref z.a).reverse) ++ [Value.ref a0]).toArray[x.toNat]? = some (.ref z.a) := by
      have e : x.toNat = c.length := by omega
      rw [hwl, e]; simp
    obtain ⟨t3, hx3⟩ : ∃ t, sv.toArray[x.toNat]? = some (.int (bi z.right) t) := by
      have e : x.toNat = c.length := by omega
      rw [e]
      have q := hi.get c.length (bi z.right) (by rw [hc0]; simp)
      simpa using q
    have hx0 : 0 ≤ x := by omega
    have nd1 : Nd (z.obj (.ref a) :: (z.sib.objs ++ cobjs c (.ref z.a) ++ rest)) := by
      have q := nd
      rw [List.append_assoc] at q
      exact q.right
    have hsub1 : ∀ q ∈ z.obj (.ref a) :: (z.sib.objs ++ cobjs c (.ref z.a) ++ rest), q ∈ (Tre.node a l r g).objs ++ cobjs (z :: c) (.ref a) ++ rest := fun q hq => by
      rw [List.append_assoc]
      exact List.mem_append_right _ hq
    refine for_itemR F N (fun q hq => Nat.ne_of_lt (hlt q hq)) (by simp only [List.length_cons]; omega) fun t h' tk' F' N' => ?_
    k_steps
    · rename_i hb
      rename News _ _ _ _ => N9
      rename Fr _ _ _ _ => F9
      have N10 : News _ _ _ (z.obj (.ref a) :: ((I, itG (x + -1) (↑(z :: c).length - 1) (-1)) :: (z.sib.objs ++ cobjs c (.ref z.a) ++ rest))) := news_sub N9 fun q hq => by
        rcases List.mem_cons.mp hq with rfl | hq
        · exact .tail _ (hsub1 _ (.head _))
        · rcases List.mem_cons.mp hq with rfl | hq
          · exact .head _
          · exact .tail _ (hsub1 _ (.tail _ hq))
      have off10 : ∀ q ∈ ((I, itG (x + -1) (↑(z :: c).length - 1) (-1)) :: (z.sib.objs ++ cobjs c (.ref z.a) ++ rest)), q.1 ≠ z.a := fun q hq => by
        rcases List.mem_cons.mp hq with rfl | hq
        · exact Nat.ne_of_gt (hlt _ (hsub1 _ (.head _)))
        · exact nd1.off q hq
      refine set_at F9 N10 off10 (by cases z.right <;> decide) (by cases z.right <;> decide) (its' := if z.right then #[z.sib.val, .none, z.g] else #[.none, z.sib.val, z.g]) (by cases z.right <;> simp [bi]) (by cases z.right <;> rfl) fun h11 F11 N11 => ?_
      k_steps
      have eu : (z.up .nil).objs ++ cobjs c (.ref z.a) ++ rest = z.obj .none :: (z.sib.objs ++ cobjs c (.ref z.a) ++ rest) := by rw [up_nil_objs]; rfl
      have hp' : pruneZ (z :: c) (Tre.node a l r g) = pruneZ c (z.up .nil) := by
        rw [← bare_node (a := a)] at hb
        simp [pruneZ, hb]
      refine for_post_next (IH _ ⟨z.up .nil, z.a, d ++ [z], Value.ref a :: tl, _, _, _, x + -1, rfl, Z.up_val _ _, F11, ?_, ?_, ?_, hmw, hms, ?_, ?_, ?_, ?_⟩)
      · rw [eu]
        have e9 : ((z :: c).length : Int) - 1 = (c.length : Int) := by simp
        rw [e9] at N11
        exact news_perm N11 (List.Perm.swap ..)
      · rw [eu]; exact nd1.head
      · rw [eu]
        intro q hq
        rcases List.mem_cons.mp hq with rfl | hq
        · exact hlt (z.obj (.ref a)) (hsub1 _ (.head _))
        · exact hlt _ (hsub1 _ (.tail _ hq))
      · omega
      · rw [← hp', hpr]
      · rw [hc0]; simp
      · rw [hwl]; simp
    · rename_i hb
      refine for_post_ret ?_
      k_steps
      have hp' : pruneZ (z :: c) (Tre.node a l r g) = plug (z :: c) (Tre.node a l r g) := by
        rw [← bare_node (a := a)] at hb
        simp [pruneZ, hb]
      refine hret _ _ _ _ (by k_asm) (news_sub (by k_asm) fun q hq => ?_) rfl
      rw [← hpr, hp'] at hq
      refine .tail _ ?_
      rcases List.mem_append.mp hq with hq | hq
      · exact List.mem_append_left _ ((plug_objs _ _).mem_iff.mp hq)
      · exact List.mem_append_right _ hq
  · rintro s₁ ⟨u, a, d, tl, h, tk, m, x, rfl, hu', F, N, nd, hlt, hmw, hms, hx, hpr, hc0, hwl⟩
    refine for_endR rfl F N (fun q hq => Nat.ne_of_lt (hlt q hq)) (by simp) fun h' F' N' => ?_
    k_steps
    refine hret _ _ _ _ (by k_asm) (news_sub (by k_asm) fun q hq => ?_) rfl
    rw [← hpr] at hq
    simpa [cobjs, pruneZ] using hq
end
end
section -- con2
local macro_rules | `(tactic| walk_at "call ref") => `(tactic| (k_here; k_dflt (refine' con_use (C_check _ _ _ _ _ _ _ _ _ _ _ _ _ ?a1 ?a2 ?a3) ?k1 ?k2 ?k3 ?k4 ?k5 ?kK ?kd ?ku ?_; (case k1 | k2 | k3 | k4 | k5 => k_asm); (case kK => first | exact rfl | assumption); (case a1 | a2 | a3 => assumption); (case kd => ktr_room); (case ku => ktr_units); k_whole); intro r9 nx9 h9 tk9 F9 N9 O9; (try dsimp only at O9); obtain ⟨q9, q8⟩ := O9; subst q9; subst q8))
local macro_rules | `(tactic| walk_at "call ref") => `(tactic| (k_here; k_dflt (refine' con_use (C_steps _ _ _ _ _ _ _ _ _ _ _ _ _ ?a1 ?a2) ?k1 ?k2 ?k3 ?k4 ?k5 ?kK ?kd ?ku ?_; (case k1 | k2 | k3 | k4 | k5 => k_asm); (case kK => first | exact rfl | assumption); (case a1 | a2 => assumption); (case kd => ktr_room); (case ku => ktr_units); k_whole); intro r9 nx9 h9 tk9 F9 N9 O9; (try dsimp only at O9); obtain ⟨D9, ys9, c9, q9, q8, off9, hI9⟩ := O9; subst q9; subst q8))
section -- P3
theorem off_P3 : True := by w_top off; exact trivial
inductive PuOut (k n B : Nat) (gv : Value) (a0 : Addr) (l0 r0 : Tre) (g0 : Value) (rest : List (Addr × Obj)) (rv : Value) (nx : List (Addr × Obj)) : Prop
  | mk (t' : Tre) (f0 : nx = t'.objs ++ rest) (f1 : Nd nx) (f2 : t'.val = .ref a0) (f3 : t'.er = Shp.put (pth k n B) gv (Tre.node a0 l0 r0 g0).er) (f4 : rv = Shp.get (pth k n B) (Tre.node a0 l0 r0 g0).er) : PuOut k n B gv a0 l0 r0 g0 rest rv nx
inductive PtSt (s : Shared) (gH : Heap) (L2 : Addr) (I D9 : Addr) (ys9 : List Value) (c9 : Nat) (rest : List (Addr × Obj)) (a0 : Addr) (l0 r0 : Tre) (g0 gv : Value) (k n B : Nat) (xs : List Bool) (s' : Shared) : Prop
  | mk (cz : List Z) (t : Tre) (a : Addr) (h : Heap) (tk : Nat) (m : Str → Option Value) (o : Obj) (i : Nat) (f0 : s' = { s with heap := h, toks := tk }) (f1 : t.val = .ref a) (f2 : ItL o D9 i) (f3 : Fr gH L2 h m) (f4 : News gH L2 h ((I, o) :: (D9, listOf ys9.toArray c9) :: (t.objs ++ cobjs cz (.ref a) ++ rest))) (f5 : Nd ((I, o) :: (D9, listOf ys9.toArray c9) :: (t.objs ++ cobjs cz (.ref a) ++ rest))) (f6 : m (Str.ofString "node") = some (.ref a)) (f7 : m (Str.ofString "goal") = some gv) (f8 : (plug cz t).val = .ref a0) (f9 : plugS (cz.map Z.er) (Shp.put xs gv t.er) = Shp.put (pth k n B) gv (Tre.node a0 l0 r0 g0).er) (f10 : Shp.get xs t.er = Shp.get (pth k n B) (Tre.node a0 l0 r0 g0).er) (f11 : (pth k n B).drop i = xs) : PtSt s gH L2 I D9 ys9 c9 rest a0 l0 r0 g0 gv k n B xs s'
section
variable (w : World) (p : Program) (loose : List Str) (mean : ExcName → Option Value) (mg mb : Str → Option Value) (rest : List (Addr × Obj))
set_option maxRecDepth 100000 in
set_option maxHeartbeats 8000000 in
theorem C_put (R D : Addr) (eB eR : Int) (tB tR : Tok) (k : Nat) (tk : Tok) (c : Nat) (a0 : Addr) (l0 r0 : Tre) (g0 gv : Value) (B n : Nat) (tb tn : Tok)
   (hR : (R, instObj 138 D) ∈ rest) (hD : (D, dictOf [⟨eB, .str (Str.ofString "bits") tB, .int (k : Int) tk⟩, ⟨eR, .str (Str.ofString "root") tR, .ref a0⟩] c) ∈ rest)
   (hB : B < 2 ^ k) (hnk : n ≤ k) (hk9 : k ≤ 9) (hnd : Nd ((Tre.node a0 l0 r0 g0).objs ++ rest)) :
   Con w p loose mean mg mb 114 [.ref R, .int (B : Int) tb, .int (n : Int) tn, gv] 20 200 ((Tre.node a0 l0 r0 g0).objs ++ rest)
     (PuOut k n B gv a0 l0 r0 g0 rest) := by
  intro dp un gd cn cs ad ccd cl outer A₀ base h₀ L m s Q E BB F X N TT hkk hd hu hret
  have hR' : (R, instObj 138 D) ∈ (Tre.node a0 l0 r0 g0).objs ++ rest := List.mem_append_right _ hR
  have hD' : (D, dictOf [⟨eB, .str (Str.ofString "bits") tB, .int (k : Int) tk⟩, ⟨eR, .str (Str.ofString "root") tR, .ref a0⟩] c) ∈ (Tre.node a0 l0 r0 g0).objs ++ rest := List.mem_append_right _ hD
  refine wpAny_call ?_
  first | k_dflt ktr_enter | fail "enter"
  k_steps
  rename_i D9 ys9 c9 off9 hI9 I o h1 hO F1 N1 l1
  have nd1 : Nd ((I, o) :: (D9, listOf ys9.toArray c9) :: ((Tre.node a0 l0 r0 g0).objs ++ cobjs [] (.ref a0) ++ rest)) := by
    have e : (Tre.node a0 l0 r0 g0).objs ++ cobjs [] (.ref a0) ++ rest = (Tre.node a0 l0 r0 g0).objs ++ rest := by simp [cobjs]
    rw [e]
    exact (hnd.cons off9).lt l1
  refine for_ind (PtSt s _ _ I D9 ys9 c9 rest a0 l0 r0 g0 gv k n B) ?_ ?_ (pth k n B) _
    ⟨[], .node a0 l0 r0 g0, a0, _, _, _, _, 0, rfl, rfl, hO, F1, by simpa [cobjs] using N1, nd1, rfl, rfl, rfl, rfl, rfl, rfl⟩
  · rintro b xs s₁ ⟨cz, t, a, h, tk, m, o, i, rfl, hta, hO, F, N, nd, hmn, hmg, hpv, hput, hget, hdr⟩ IH
    refine Classical.byContradiction fun hno9 => ?_
    obtain ⟨l, r, g, rfl⟩ := val_node hta
    obtain ⟨ch, sib, hn⟩ := node_up b a l r g
    refine hno9 ?_
    clear hno9
    rw [hn] at N nd hpv hput hget
    clear hn hta
    have hb : (pth k n B)[i]? = some b := by
      have := congrArg List.head? hdr
      simpa using this
    have hdr' : (pth k n B).drop (i + 1) = xs := by rw [← List.drop_drop, hdr]; rfl
    obtain ⟨t1, hx⟩ := hI9.get i (bi b) (by simp [hb])
    refine for_item F N hO nd.off (.head _) (by simpa using hx) fun o' h' hO' F' N' => ?_
    have nd2 := nd.head (o' := o')
    have N2 : News _ _ h' ((a, listOf (if b = true then #[sib.val, ch.val, g] else #[ch.val, sib.val, g]) 0) :: ((I, o') :: (D9, listOf ys9.toArray c9) :: (ch.objs ++ (sib.objs ++ (cobjs cz (.ref a) ++ rest))))) := news_sub N' (sub_cc fun q => by
      have e := cc_perm (Z.up_objs ⟨b, a, sib, g⟩ ch) q
      simp only [cc_cons, cc_append, Z.obj] at e ⊢
      omega)
    have nd3 : Nd ((a, listOf (if b = true then #[sib.val, ch.val, g] else #[ch.val, sib.val, g]) 0) :: ((I, o') :: (D9, listOf ys9.toArray c9) :: (ch.objs ++ (sib.objs ++ (cobjs cz (.ref a) ++ rest))))) := nd_of_cn nd2 fun x => by
      have e := cn_perm (Z.up_objs ⟨b, a, sib, g⟩ ch) x
      simp only [cn_cons, cn_append, Z.obj] at e ⊢
      omega
    clear N' N nd nd2
    cases ch with
    | nil =>
      simp only [val_nil, val_mk, Tre.objs, List.nil_append] at N2 nd3
      k_steps
      rename_i x h4 F4 N4 l4
      have lt4 : ∀ q ∈ ((a, listOf (if b = true then #[sib.val, .none, g] else #[.none, sib.val, g]) 0) :: ((I, o') :: (D9, listOf ys9.toArray c9) :: (sib.objs ++ (cobjs cz (.ref a) ++ rest)))), q.1 < x := tb_ltOf l4
      have nd5 := nd3.lt (p := (x, listOf #[.none, .none, .none] 0)) lt4
      refine set_at F4 (news_perm N4 (List.Perm.swap ..)) (nd5.perm (List.Perm.swap ..)).off (by cases b <;> simp [bi]) (by cases b <;> simp [bi]) (its' := if b = true then #[sib.val, .ref x, g] else #[.ref x, sib.val, g]) (by cases b <;> simp [bi]) (by cases b <;> rfl) fun h5 F5 N5 => ?_
      clear N4 F4
      k_steps
      rename News _ _ _ _ => N6
      rename Fr _ _ _ _ => F6
      refine for_post_next (IH _ ⟨⟨b, a, sib, g⟩ :: cz, .node x .nil .nil .none, x, _, _, _, _, i + 1, rfl, rfl, hO', F6, news_sub N6 (sub_cc fun q => ?_), nd_of_cn nd5 fun y => ?_, rfl, hmg, ?_, ?_, ?_, hdr'⟩)
      · simp only [cc_cons, cc_append, cc_nil, Z.obj, cobjs, Tre.objs, val_nil, val_mk, List.nil_append]
        omega
      · simp only [cn_cons, cn_append, Z.obj, cobjs, Tre.objs, val_nil, val_mk, List.nil_append, cn_nil]
        omega
      · rw [← hpv]
        exact plug_val cz (by rw [Z.up_val, Z.up_val])
      · rw [← hput, Z.up_er]
        show plugS (cz.map Z.er) (ZS.up ⟨b, sib.er, g⟩ _) = plugS _ (Shp.put ((ZS.mk b sib.er g).right :: xs) gv (ZS.up ⟨b, sib.er, g⟩ .nil))
        rw [put_up, put_fresh]
        rfl
      · rw [← hget, Z.up_er]
        show _ = Shp.get ((ZS.mk b sib.er g).right :: xs) (ZS.up ⟨b, sib.er, g⟩ .nil)
        rw [get_up, get_nil]
        exact get_fresh xs
    | node a2 l2 r2 g2 =>
      simp only [val_nil, val_mk] at N2 nd3
      k_steps
      rename News _ _ _ _ => N6
      rename Fr _ _ _ _ => F6
      refine for_post_next (IH _ ⟨⟨b, a, sib, g⟩ :: cz, .node a2 l2 r2 g2, a2, _, _, _, _, i + 1, rfl, rfl, hO', F6, news_sub N6 (sub_cc fun q => ?_), nd_of_cn nd3 fun y => ?_, rfl, hmg, ?_, ?_, ?_, hdr'⟩)
      · simp only [cc_cons, cc_append, Z.obj, cobjs]
        omega
      · simp only [cn_cons, cn_append, Z.obj, cobjs]
        omega
      · rw [← hpv]; rfl
      · rw [← hput, Z.up_er]
        show plugS (cz.map Z.er) (ZS.up ⟨b, sib.er, g⟩ _) = plugS _ (Shp.put ((ZS.mk b sib.er g).right :: xs) gv (ZS.up ⟨b, sib.er, g⟩ _))
        rw [put_up]
      · rw [← hget, Z.up_er]
        show _ = Shp.get ((ZS.mk b sib.er g).right :: xs) (ZS.up ⟨b, sib.er, g⟩ _)
        rw [get_up]
  · rintro s₁ ⟨cz, t, a, h, tk, m, o, i, rfl, hta, hO, F, N, nd, hmn, hmg, hpv, hput, hget, hdr⟩
    obtain ⟨l, r, g, rfl⟩ := val_node hta
    have hz : ys9.toArray.size ≤ i := by
      have h1 := hI9.length
      have h2 := congrArg List.length hdr
      simp at h1 h2 ⊢
      omega
    refine for_end rfl F N hO nd.off (.head _) hz fun h' F' N' => ?_
    have N2 : News _ _ h' ((a, listOf #[l.val, r.val, g] 0) :: (l.objs ++ (r.objs ++ (cobjs cz (.ref a) ++ rest)))) := news_sub N' (sub_cc fun q => by
      simp only [cc_cons, cc_append, Tre.objs]
      omega)
    have nd2 : Nd ((a, listOf #[l.val, r.val, g] 0) :: (l.objs ++ (r.objs ++ (cobjs cz (.ref a) ++ rest)))) := nd_of_cn nd fun y => by
      simp only [cn_cons, cn_append, Tre.objs]
      omega
    clear N' N nd
    k_steps
    rename News _ _ _ _ => N6
    rename Fr _ _ _ _ => F6
    refine set_at F6 N6 nd2.off (by decide) (by decide) (by simp) (its' := #[l.val, r.val, gv]) rfl fun h5 F5 N5 => ?_
    clear N6 F6
    k_steps
    have hp := plug_objs cz (.node a l r gv)
    refine hret _ ((plug cz (.node a l r gv)).objs ++ rest) _ _ (by k_asm) (news_sub (by k_asm) (sub_cc fun q => ?_)) ⟨_, rfl, nd_of_cn nd2 fun y => ?_, ?_, ?_, ?_⟩
    · have e := cc_perm hp q
      simp only [cc_cons, cc_append, Tre.objs, val_nil, val_mk] at e ⊢
      omega
    · have e := cn_perm hp y
      simp only [cn_cons, cn_append, Tre.objs, val_nil, val_mk] at e ⊢
      omega
    · rw [← hpv]; exact plug_val cz rfl
    · rw [← hput, plug_er]; rfl
    · rw [← hget]; rfl
end
end
section -- P4
local macro_rules | `(tactic| walk_at "idle line") => `(tactic| skip)
theorem off_P4 : True := by w_top off; exact trivial
inductive DpOut (k n B : Nat) (a0 : Addr) (l0 r0 : Tre) (g0 : Value) (rest : List (Addr × Obj)) (rv : Value) (nx : List (Addr × Obj)) : Prop
  | mk (t' : Tre) (f0 : nx = t'.objs ++ rest) (f1 : Nd nx) (f2 : t'.val = .ref a0) (f3 : rv = .bool (!(Shp.get (pth k n B) (Tre.node a0 l0 r0 g0).er == .none))) (f4 : t'.er = if Shp.get (pth k n B) (Tre.node a0 l0 r0 g0).er == .none then (Tre.node a0 l0 r0 g0).er else Shp.drop (pth k n B) (Tre.node a0 l0 r0 g0).er) : DpOut k n B a0 l0 r0 g0 rest rv nx
section
variable (w : World) (p : Program) (loose : List Str) (mean : ExcName → Option Value) (mg mb : Str → Option Value) (rest : List (Addr × Obj))
set_option maxRecDepth 100000 in
set_option maxHeartbeats 8000000 in
theorem C_drop (R D : Addr) (eB eR : Int) (tB tR : Tok) (k : Nat) (tk : Tok) (c : Nat) (a0 : Addr) (l0 r0 : Tre) (g0 : Value) (B n : Nat) (tb tn : Tok)
   (hR : (R, instObj 138 D) ∈ rest) (hD : (D, dictOf [⟨eB, .str (Str.ofString "bits") tB, .int (k : Int) tk⟩, ⟨eR, .str (Str.ofString "root") tR, .ref a0⟩] c) ∈ rest)
   (hB : B < 2 ^ k) (hnk : n ≤ k) (hk9 : k ≤ 9) (hnd : Nd ((Tre.node a0 l0 r0 g0).objs ++ rest)) :
   Con w p loose mean mg mb 121 [.ref R, .int (B : Int) tb, .int (n : Int) tn] 30 300 ((Tre.node a0 l0 r0 g0).objs ++ rest)
     (DpOut k n B a0 l0 r0 g0 rest) := by
  intro dp un gd cn cs ad ccd cl outer A₀ base h₀ L m s Q E BB F X N TT hkk hd hu hret
  have hR' : (R, instObj 138 D) ∈ (Tre.node a0 l0 r0 g0).objs ++ rest := List.mem_append_right _ hR
  have hD' : (D, dictOf [⟨eB, .str (Str.ofString "bits") tB, .int (k : Int) tk⟩, ⟨eR, .str (Str.ofString "root") tR, .ref a0⟩] c) ∈ (Tre.node a0 l0 r0 g0).objs ++ rest := List.mem_append_right _ hD
  have hpl : (pth k n B).length ≤ 64 := by rw [pth_len]; omega
  have hpl' : (pth k n B).length ≤ 9 := by rw [pth_len]; omega
  refine wpAny_call ?_
  first | k_dflt ktr_enter | fail "enter"
  k_steps
  rename_i D9 ys9 c9 off9 hI9 h5 F4 N4
  have nd4 : Nd ((D9, listOf ys9.toArray c9) :: ((Tre.node a0 l0 r0 g0).objs ++ rest)) := hnd.cons off9
  have hsub : ∀ q ∈ (Tre.node a0 l0 r0 g0).objs, q ∈ (D9, listOf ys9.toArray c9) :: ((Tre.node a0 l0 r0 g0).objs ++ rest) := fun q hq => .tail _ (List.mem_append_left _ hq)
  refine' con_use (C_way w p loose mean mg mb _ a0 l0 r0 g0 D9 ys9 c9 (pth k n B) (.head _) hpl hI9 hsub) ?k1 F4 ?k3 N4 ?k5 ?kK ?kd ?ku ?_
  (case k1 => k_asm)
  (case k3 => k_asm)
  (case k5 => k_asm)
  (case kK => exact rfl)
  (case kd => ktr_room)
  (case ku => ktr_units)
  intro r9 nx9 h9 tk9 F9 N9 O9
  try dsimp only at O9
  clear F4 N4
  cases hway : Tre.way (pth k n B) (.node a0 l0 r0 g0) with
  | none =>
    rw [hway] at O9
    obtain ⟨q9, q8⟩ := O9
    subst q9; subst q8
    k_steps
    have hg := way_none _ _ hway
    refine hret _ ((Tre.node a0 l0 r0 g0).objs ++ rest) _ _ (by k_asm) (news_sub (by k_asm) fun q hq => .tail _ hq) ⟨.node a0 l0 r0 g0, rfl, hnd, rfl, ?_, ?_⟩
    · rw [hg]; rfl
    · rw [hg]; rfl
  | some as =>
    rw [hway] at O9
    refine Classical.byContradiction fun hno9 => ?_
    obtain ⟨Wl, nW, q9, q8, lt9⟩ := O9
    subst q9; subst q8
    obtain ⟨cz, a, l, r, g, e1, e2, e3⟩ := way_split _ _ _ hway
    refine hno9 ?_
    clear hno9
    have nd9 := nd4.lt (p := (Wl, listOf (as.map Value.ref).toArray nW)) lt9
    have ew : (as.map Value.ref) = (cz.map fun z => Value.ref z.a).reverse ++ [Value.ref a] := by rw [e2]; simp
    have hg : Shp.get (pth k n B) (Tre.node a0 l0 r0 g0).er = g := by
      rw [e1, plug_er, e3]
      have := get_plug (Tre.node a l r g).er (cz.map Z.er).length (cz.map Z.er) rfl
      rw [List.map_map] at this
      exact this
    rw [ew] at N9 nd9
    have hp := plug_objs cz (.node a l r g)
    rw [← e1] at hp
    have N10 : News _ _ _ ((a, listOf #[l.val, r.val, g] 0) :: ((Wl, listOf ((cz.map fun z => Value.ref z.a).reverse ++ [Value.ref a]).toArray nW) :: (D9, listOf ys9.toArray c9) :: (l.objs ++ (r.objs ++ (cobjs cz (.ref a) ++ rest))))) := news_sub N9 (sub_cc fun q => by
      have e := cc_perm hp q
      simp only [cc_cons, cc_append, Tre.objs, val_mk] at e ⊢
      omega)
    have nd10 : Nd ((a, listOf #[l.val, r.val, g] 0) :: ((Wl, listOf ((cz.map fun z => Value.ref z.a).reverse ++ [Value.ref a]).toArray nW) :: (D9, listOf ys9.toArray c9) :: (l.objs ++ (r.objs ++ (cobjs cz (.ref a) ++ rest))))) := nd_of_cn nd9 fun q => by
      have e := cn_perm hp q
      simp only [cn_cons, cn_append, Tre.objs, val_mk] at e ⊢
      omega
    clear N9 nd9 nd4 hsub
    k_steps
    · rename (g == Value.none) = true => hgn
      refine hret _ ((Tre.node a0 l0 r0 g0).objs ++ rest) _ _ (by k_asm) (news_sub (by k_asm) (sub_cc fun q => ?_)) ⟨.node a0 l0 r0 g0, rfl, hnd, rfl, ?_, ?_⟩
      · have e := cc_perm hp q
        simp only [cc_cons, cc_append, Tre.objs, val_mk] at e ⊢
        omega
      · rw [hg, hgn]; rfl
      · rw [hg, hgn]; rfl
    · rename (g == Value.none) = false => hgn
      rename News _ _ _ _ => N11
      rename Fr _ _ _ _ => F11
      refine set_at F11 N11 nd10.off (by decide) (by decide) (by simp) (its' := #[l.val, r.val, .none]) rfl fun h12 F12 N12 => ?_
      clear N11 F11
      k_steps
      have nd12 : Nd ((Tre.node a l r .none).objs ++ cobjs cz (.ref a) ++ ((Wl, listOf ((cz.map fun z => Value.ref z.a).reverse ++ [Value.ref a]).toArray nW) :: (D9, listOf ys9.toArray c9) :: rest)) := nd_of_cn nd10 fun q => by
        simp only [cn_cons, cn_append, Tre.objs]
        omega
      have N13 := news_sub (rest := (Tre.node a l r .none).objs ++ cobjs cz (.ref a) ++ ((Wl, listOf ((cz.map fun z => Value.ref z.a).reverse ++ [Value.ref a]).toArray nW) :: (D9, listOf ys9.toArray c9) :: rest)) N12 (sub_cc fun q => by
        simp only [cc_cons, cc_append, Tre.objs]
        omega)
      have hcl : cz.length ≤ 64 := by
        have := congrArg List.length e3
        rw [pth_len] at this
        simp at this
        omega
      have hI10 : IntsAre ys9 ((cz.map fun z => bi z.right).reverse) := by
        have e : (pth k n B).map bi = (cz.map fun z => bi z.right).reverse := by rw [e3]; simp
        rw [← e]; exact hI9
      clear N12
      refine' con_use (C_prune w p loose mean mg mb _ cz a l r .none Wl D9 ys9 nW c9 hcl (.tail _ (.head _)) hI10 (.head _) nd12) ?k1 F12 ?k3 N13 ?k5 ?kK ?kd ?ku ?_
      (case k1 => k_asm)
      (case k3 => k_asm)
      (case k5 => k_asm)
      (case kK => exact rfl)
      (case kd => ktr_room)
      (case ku => ktr_units)
      intro r13 nx13 h13 tk13 F13 N14 O13
      subst O13
      clear F12 N13
      k_steps
      have ndp := pruneZ_nd cz (Tre.node a l r .none) a rfl (rest := rest) (nd_of_cn nd12 fun q => by
        simp only [cn_cons, cn_append]
        omega)
      refine hret _ ((pruneZ cz (.node a l r .none)).objs ++ rest) _ _ (by k_asm) (news_sub (by k_asm) (sub_cc fun q => ?_)) ⟨_, rfl, ndp, ?_, ?_, ?_⟩
      · simp only [cc_cons, cc_append]
        omega
      · rw [pruneZ_val cz _ a rfl]
        have e := congrArg Tre.val e1
        rw [val_mk] at e
        rw [e]
        exact plug_val cz rfl
      · rw [hg, hgn]; rfl
      · rw [hg, hgn, pruneZ_er]
        have e := drop_plug l.er r.er g (cz.map Z.er).length (cz.map Z.er) rfl
        rw [List.map_map] at e
        have e4 : (Tre.node a0 l0 r0 g0).er = plugS (cz.map Z.er) (.node l.er r.er g) := by rw [e1, plug_er]; rfl
        have e5 : pth k n B = (cz.map (ZS.right ∘ Z.er)).reverse := e3
        rw [e4, e5, e]
        rfl
end
end
end -- con2
end -- con
section -- pre1
local macro_rules | `(tactic| walk_at "truthy ref") => `(tactic| (k_here; (with_reducible show wpAny _ _ (truthy (Value.ref _)) _ _ _); k_dflt (refine' truthy_at ?k1 ?k2 ?k3 ?k4 ?_; (case k1 => k_asm); (case k2 => k_mem); (case k3 => with_reducible assumption); (case k4 => first | with_reducible assumption | omega); k_whole); intro _))
local macro_rules | `(tactic| walk_at "call builtin:list.pop") => `(tactic| (k_here; k_dflt (refine' pop_snoc ?k1 ?k2 ?k3 ?k4 ?_; (case k1 | k2 => k_asm); (case k3 => assumption); (case k4 => first | with_reducible assumption | omega); k_whole); intro h' F' N'; (try k_sweep)))
section -- P5
theorem off_P5 : True := by w_top off; exact trivial
inductive RwOut (R : List Rw) (news : List (Addr × Obj)) (rv : Value) (nx : List (Addr × Obj)) : Prop
  | mk (O : Addr) (vs : List Value) (c : Nat) (add : List (Addr × Obj)) (f0 : rv = .ref O) (f1 : nx = (O, listOf vs.toArray c) :: (add ++ news)) (f2 : RowsIn add vs R) : RwOut R news rv nx
inductive RwJ2 (s : Shared) (gH : Heap) (L2 : Addr) (Lf O : Addr) (news add2 : List (Addr × Obj)) (m1 : Str → Option Value) (outs2 : List Value) (nO2 k : Nat) (X : List (Tre × Nat × Nat)) (z : Nat) (s' : Shared) : Prop
  | mk (vs' : List Value) (st' : List (Tre × Nat × Nat)) (add' : List (Addr × Obj)) (h : Heap) (tk nL : Nat) (f0 : s' = { s with heap := h, toks := tk }) (f1 : Fr gH L2 h m1) (f2 : News gH L2 h ((Lf, listOf vs'.toArray nL) :: (O, listOf outs2.toArray nO2) :: (add' ++ news))) (f3 : (∀ q ∈ add' ++ news, q.1 ≠ Lf)) (f4 : (∀ q ∈ add' ++ news, q.1 ≠ O)) (f5 : (∀ q ∈ add2, q ∈ add')) (f6 : StIn k news add' vs' st') (f7 : stRows k st' = stRows k X) (f8 : stSize st' = z) : RwJ2 s gH L2 Lf O news add2 m1 outs2 nO2 k X z s'
inductive RwJ1 (s : Shared) (gH : Heap) (L2 : Addr) (Lf O : Addr) (news add : List (Addr × Obj)) (m1 : Str → Option Value) (vs outs : List Value) (nL : Nat) (R0 : List Rw) (b d : Nat) (g : Value) (s' : Shared) : Prop
  | mk (outs' : List Value) (add' : List (Addr × Obj)) (h : Heap) (tk nO : Nat) (f0 : s' = { s with heap := h, toks := tk }) (f1 : Fr gH L2 h m1) (f2 : News gH L2 h ((Lf, listOf vs.toArray (nL + 1)) :: (O, listOf outs'.toArray nO) :: (add' ++ news))) (f3 : (∀ q ∈ add' ++ news, q.1 ≠ Lf)) (f4 : (∀ q ∈ add' ++ news, q.1 ≠ O)) (f5 : (∀ q ∈ add, q ∈ add')) (f6 : RowsIn add' outs' (R0 ++ (if g == .none then [] else [⟨b, d, g⟩]))) (f7 : outs'.length ≤ outs.length + 1) : RwJ1 s gH L2 Lf O news add m1 vs outs nL R0 b d g s'
inductive RwSt (s : Shared) (gH : Heap) (L2 : Addr) (Lf O : Addr) (k : Nat) (tk_1 : Tok) (a0 : Addr) (l0 r0 : Tre) (g0 : Value) (news : List (Addr × Obj)) (mm : Nat) (s' : Shared) : Prop
  | mk (st : List (Tre × Nat × Nat)) (vs outs : List Value) (R0 : List Rw) (add : List (Addr × Obj)) (h : Heap) (tk : Nat) (m : Str → Option Value) (nL nO : Nat) (f0 : s' = { s with heap := h, toks := tk }) (f1 : Fr gH L2 h m) (f2 : News gH L2 h ((Lf, listOf vs.toArray nL) :: (O, listOf outs.toArray nO) :: (add ++ news))) (f3 : (∀ q ∈ add ++ news, q.1 ≠ Lf)) (f4 : (∀ q ∈ add ++ news, q.1 ≠ O)) (f5 : m (Str.ofString "left") = some (.ref Lf)) (f6 : m (Str.ofString "out") = some (.ref O)) (f7 : m (Str.ofString "bits") = some (.int (k : Int) tk_1)) (f8 : StIn k news add vs st) (f9 : RowsIn add outs R0) (f10 : R0 ++ stRows k st = rowsS (Tre.node a0 l0 r0 g0).er k 0 0) (f11 : outs.length + stSize st ≤ 100000) (f12 : stSize st ≤ mm) : RwSt s gH L2 Lf O k tk_1 a0 l0 r0 g0 news mm s'
local macro_rules | `(tactic| walk_at "exec If") => `(tactic| refine hold_if ?_)
local macro_rules | `(tactic| k_all) => `(tactic| assumption)
section
variable (w : World) (p : Program) (loose : List Str) (mean : ExcName → Option Value) (mg mb : Str → Option Value) (news : List (Addr × Obj))
set_option maxRecDepth 100000 in
set_option maxHeartbeats 8000000 in
theorem C_rows (a0 : Addr) (l0 r0 : Tre) (g0 : Value) (k : Nat) (tk_1 : Tok) (hk9 : k ≤ 9) (ht : ∀ q ∈ (Tre.node a0 l0 r0 g0).objs, q ∈ news) (hf : (Tre.node a0 l0 r0 g0).er.fit k) (hsz : (Tre.node a0 l0 r0 g0).sz ≤ 100000) :
   Con w p loose mean mg mb 93 [.ref a0, .int (k : Int) tk_1] 10 100 news
     (RwOut (rowsS (Tre.node a0 l0 r0 g0).er k 0 0) news) := by
  intro dp un gd cn cs ad ccd cl outer A₀ base h₀ L m s Q E BB F X N TT hkk hd hu hret
  refine wpAny_call ?_
  first | k_dflt ktr_enter | fail "enter"
  rename_i gH L2 hH FG FF NN B2 X2 T2
  k_steps
  rename_i O e1 lO e2 e3 Dt e4 lD Lf e5 lL h0 F1 N1
  have hLO : @Ne Nat Lf O := Nat.ne_of_gt lL.2.1
  refine while_ind (RwSt s gH L2 Lf O k tk_1 a0 l0 r0 g0 news) ?_ (stSize [(Tre.node a0 l0 r0 g0, 0, 0)]) _
    ⟨[(.node a0 l0 r0 g0, 0, 0)], [.ref Dt], [], [], [(Dt, tupO #[.ref a0, .int 0 e3, .int 0 (e3 + 1)] 0)], _, _, _, 0, 0, rfl, F1, news_sub N1 (sub_cc fun q => ?_), ?_, ?_, rfl, rfl, rfl, ?_, .nil, ?_, ?_, Nat.le_refl _⟩
  · rintro mm s₁ ⟨st, vs, outs, R0, add, h, tk, m, nL, nO, rfl, F, N, offL, offO, hmL, hmO, hmk, hst, hro, hrw, hsz2, hmm⟩ IH
    refine while_turn ?_
    cases hst with
    | nil =>
      have hb : (!([] : List Value).toArray.isEmpty) = false := rfl
      have hfit : ((([] : List Value).toArray.size : Nat) : Int) < 2 ^ 63 := by decide
      k_steps
      refine hret _ ((O, listOf outs.toArray nO) :: (add ++ news)) _ _ (by k_asm) (news_sub (by k_asm) fun q hq => .tail _ hq) ⟨O, outs, nO, add, rfl, rfl, ?_⟩
      rw [← hrw, stRows, List.append_nil]
      exact hro
    | snoc hst htup hsub hdk hfit =>
      rename_i a x l r g b d n t1 t2 vs st
      have hb : (!(vs ++ [Value.ref a]).toArray.isEmpty) = true := by simp
      have hvs := hst.length
      rw [stSize, Tre.sz] at hsz2 hmm
      have hfit2 : (((vs ++ [Value.ref a]).toArray.size : Nat) : Int) < 2 ^ 63 := by
        rw [List.size_toArray, List.length_append, List.length_singleton]
        omega
      have hfit3 : (((vs ++ [Value.ref a]).toArray.size : Nat) : Int) < 2 ^ 24 := by
        rw [List.size_toArray, List.length_append, List.length_singleton]
        omega
      have offL2 : ∀ q ∈ (O, listOf outs.toArray nO) :: (add ++ news), q.1 ≠ Lf := fun q hq => by
        rcases List.mem_cons.mp hq with rfl | hq
        · exact Ne.symm hLO
        · exact offL q hq
      have htup2 : (a, tupO #[.ref x, .int (b : Int) t1, .int (d : Int) t2] n) ∈ add ++ news := List.mem_append_left _ htup
      k_steps
      rename News _ _ _ _ => N3
      rename Fr _ _ _ _ => F3
      obtain ⟨m1, F4, gL, gO, gk, gn, gb, gdd⟩ : ∃ m1, Fr _ _ _ m1 ∧ m1 (Str.ofString "left") = some (.ref Lf) ∧ m1 (Str.ofString "out") = some (.ref O) ∧ m1 (Str.ofString "bits") = some (.int (k : Int) tk_1) ∧
        m1 (Str.ofString "node") = some (.ref x) ∧ m1 (Str.ofString "base") = some (.int (b : Int) t1) ∧ m1 (Str.ofString "length") = some (.int (d : Int) t2) := ⟨_, F3, hmL, hmO, hmk, rfl, rfl, rfl⟩
      clear F3 F N hmL hmO hmk hb hfit2 hfit3 offL2 htup2
      have hmx : (x, listOf #[l.val, r.val, g] 0) ∈ news := hsub _ (.head _)
      have hol : outs.length ≤ 100000 := by omega
      refine if_join (RwJ1 s gH L2 Lf O news add m1 vs outs nL R0 b d g) ?_ ?_
      · refine wpAny_If ?_
        k_steps
        · rename (g == Value.none) = true => hg
          refine join_at ⟨outs, add, _, _, _, rfl, by k_asm, by k_asm, offL, offO, fun _ h => h, ?_, Nat.le_succ _⟩
          rw [hg, if_pos rfl, List.append_nil]
          exact hro
        · rename (g == Value.none) = false => hg
          rename_i T1 hT lT hT2 FT NT
          refine join_at ⟨outs ++ [.ref T1], (T1, tupO #[.int (b : Int) t1, .int (d : Int) t2, g] 0) :: add, _, _, nO + 1, rfl, by k_asm, news_sub NT (sub_cc fun q => ?_), ?_, ?_, fun _ h => .tail _ h, ?_, by simp⟩
          · simp only [cc_cons, cc_append, List.push_toArray, List.cons_append, tupO]
            omega
          · intro q hq
            rcases List.mem_cons.mp hq with rfl | hq
            · exact Nat.ne_of_gt lT.1
            · exact offL q hq
          · intro q hq
            rcases List.mem_cons.mp hq with rfl | hq
            · exact Nat.ne_of_gt lT.2.1
            · exact offO q hq
          · rw [hg, if_neg (by simp)]
            exact (hro.mono fun _ h => .tail _ h).append (.cons (.head _) .nil)
      · rintro s2 ⟨outs2, add2, h2, tk2, nO2, rfl, F5, N5, offL2, offO2, hsub2, hro2, hol2⟩
        k_steps
        clear F4 N3 hro offL offO
        have fk := fit_kids hfit
        refine if_join (RwJ2 s gH L2 Lf O news add2 m1 outs2 nO2 k ((r, b + 2 ^ (k - 1 - d), d + 1) :: st) (r.sz + stSize st)) ?_ ?_
        · refine wpAny_If ?_
          cases r with
          | nil =>
            simp only [val_nil] at hmx
            k_steps
            refine join_at ⟨vs, st, add2, _, _, _, rfl, by k_asm, by k_asm, offL2, offO2, fun _ h => h, hst.mono hsub2, rfl, by simp [Tre.sz]⟩
          | node x1 l1 r1 g1 =>
            simp only [val_mk] at hmx
            have hkd := (fk.2 (by simp)).1
            k_steps
            rename_i e7 T1 hT lT hT2 FT NT
            have e1 : (b : Int) + 1 * 2 ^ ((k : Int) - 1 - (d : Int)).toNat = ((b + 2 ^ (k - 1 - d) : Nat) : Int) := by
              have e0 : ((k : Int) - 1 - (d : Int)).toNat = k - 1 - d := by omega
              rw [e0]; simp
            have e2 : (d : Int) + 1 = ((d + 1 : Nat) : Int) := by omega
            rw [e1, e2] at NT
            have hsr : ∀ q ∈ (Tre.node x1 l1 r1 g1).objs, q ∈ news := fun q hq => hsub q (.tail _ (List.mem_append_right _ hq))
            refine join_at ⟨vs ++ [.ref T1], (.node x1 l1 r1 g1, b + 2 ^ (k - 1 - d), d + 1) :: st, (T1, tupO #[.ref x1, .int ((b + 2 ^ (k - 1 - d) : Nat) : Int) (e7 + 1 + 1 + 1 + 1 + 1 + 1), .int ((d + 1 : Nat) : Int) (e7 + 1 + 1 + 1 + 1 + 1 + 1 + 1 + 1)] 0) :: add2, _, _, nL + 1 + 1,
              rfl, by k_asm, news_sub NT (sub_cc fun q => ?_), ?_, ?_, fun _ h => .tail _ h, .snoc (hst.mono fun q h => .tail _ (hsub2 q h)) (.head _) hsr (by omega) ?_, rfl, by simp [stSize]⟩
            · simp only [cc_cons, cc_append, List.push_toArray, List.cons_append, tupO]
              omega
            · intro q hq
              rcases List.mem_cons.mp hq with rfl | hq
              · exact Nat.ne_of_gt lT.1
              · exact offL2 q hq
            · intro q hq
              rcases List.mem_cons.mp hq with rfl | hq
              · exact Nat.ne_of_gt lT.2.1
              · exact offO2 q hq
            · have e3 : k - (d + 1) = k - d - 1 := by omega
              rw [e3]
              exact (fk.2 (by simp)).2
        · rintro s3 ⟨vs3, st3, add3, h3, tk3, nL3, rfl, F6, N6, offL3, offO3, hsub3, hst3, hrw3, hsz3⟩
          k_steps
          clear F5 N5 offL2 offO2
          have hvs3 := hst3.length
          refine if_join (RwJ2 s gH L2 Lf O news add2 m1 outs2 nO2 k ((l, b, d + 1) :: st3) (l.sz + stSize st3)) ?_ ?_
          · refine wpAny_If ?_
            cases l with
            | nil =>
              simp only [val_nil] at hmx
              k_steps
              refine join_at ⟨vs3, st3, add3, _, _, _, rfl, by k_asm, by k_asm, offL3, offO3, hsub3, hst3, rfl, by simp [Tre.sz]⟩
            | node x1 l1 r1 g1 =>
              simp only [val_mk] at hmx
              have hkd := (fk.1 (by simp)).1
              have hvl : vs3.length ≤ 100000 := by omega
              k_steps
              rename_i e7 T1 hT lT hT2 FT NT
              have e2 : (d : Int) + 1 = ((d + 1 : Nat) : Int) := by omega
              rw [e2] at NT
              have hsr : ∀ q ∈ (Tre.node x1 l1 r1 g1).objs, q ∈ news := fun q hq => hsub q (.tail _ (List.mem_append_left _ hq))
              refine join_at ⟨vs3 ++ [.ref T1], (.node x1 l1 r1 g1, b, d + 1) :: st3, (T1, tupO #[.ref x1, .int (b : Int) t1, .int ((d + 1 : Nat) : Int) (e7 + 1 + 1)] 0) :: add3, _, _, nL3 + 1,
                rfl, by k_asm, news_sub NT (sub_cc fun q => ?_), ?_, ?_, fun _ h => .tail _ (hsub3 _ h), .snoc (hst3.mono fun q h => .tail _ h) (.head _) hsr (by omega) ?_, rfl, by simp [stSize]⟩
              · simp only [cc_cons, cc_append, List.push_toArray, List.cons_append, tupO]
                omega
              · intro q hq
                rcases List.mem_cons.mp hq with rfl | hq
                · exact Nat.ne_of_gt lT.1
                · exact offL3 q hq
              · intro q hq
                rcases List.mem_cons.mp hq with rfl | hq
                · exact Nat.ne_of_gt lT.2.1
                · exact offO3 q hq
              · have e3 : k - (d + 1) = k - d - 1 := by omega
                rw [e3]
                exact (fk.1 (by simp)).2
          · rintro s4 ⟨vs4, st4, add4, h4, tk4, nL4, rfl, F7, N7, offL4, offO4, hsub4, hst4, hrw4, hsz4⟩
            k_steps
            refine IH (stSize st4) _ (by omega) ⟨st4, vs4, outs2, _, add4, _, _, _, _, _, rfl, F7, N7, offL4, offO4, gL, gO, gk, hst4, hro2.mono hsub4, ?_, by omega, Nat.le_refl _⟩
            rw [← hrw, stRows_node, hrw4]
            have e9 : stRows k ((l, b, d + 1) :: st3) = stRows k ((l, b, d + 1) :: (r, b + 2 ^ (k - 1 - d), d + 1) :: st) := by
              show _ ++ stRows k st3 = _ ++ stRows k _
              rw [hrw3]
            rw [e9, List.append_assoc]
  · simp only [cc_cons, cc_append, tupO, List.cons_append, List.nil_append]
    omega
  · intro q hq
    rcases List.mem_cons.mp hq with rfl | hq
    · exact Nat.ne_of_lt lL.1
    · exact Nat.ne_of_lt (tb_ltOf lL.2.2 q hq)
  · intro q hq
    rcases List.mem_cons.mp hq with rfl | hq
    · exact Nat.ne_of_gt lD.1
    · exact Nat.ne_of_lt (lO q hq)
  · exact .snoc (vs := []) .nil (.head _) ht (Nat.zero_le _) hf
  · simp [stRows]
  · simp only [stSize, List.length_nil]; omega
end
end
section -- P6
theorem off_P6 : True := by w_top off; exact trivial
/-- a goal: data of the ledger, not None -/
noncomputable def GoalIn (news : List (Addr × Obj)) (v : Value) : Prop := ∃ d, DatIn news v d ∧ kqdOk 3 d = true ∧ d ≠ Dat.none
theorem GoalIn.mono {l l' : List (Addr × Obj)} (hs : ∀ p ∈ l, p ∈ l') {v : Value} (h : GoalIn l v) : GoalIn l' v := by
  obtain ⟨d, h1, h2, h3⟩ := h
  exact ⟨d, h1.mono hs, h2, h3⟩
/-- no prefix of k bits -/
noncomputable def Bad (k : Nat) (x y : Int) : Prop := x < 0 ∨ 2 ^ k ≤ x ∨ y < 0 ∨ (k : Int) < y
theorem fmod_nat (a b : Nat) : Int.fmod (a : Int) (b : Int) = ((a % b : Nat) : Int) := by
  rw [Int.fmod_eq_emod_of_nonneg _ (Int.natCast_nonneg b)]
  simp
theorem fmod_pow (b k : Nat) : Int.fmod (b : Int) (2 ^ (k : Int).toNat) = ((b % 2 ^ k : Nat) : Int) := by
  have e3 : ((2 : Int) ^ ((k : Int).toNat)) = ((2 ^ k : Nat) : Int) := by simp
  rw [e3, fmod_nat]
theorem fmod_len (a k : Nat) : Int.fmod (Int.fdiv (a : Int) 16) ((k : Int) + 1) = ((a / 16 % (k + 1) : Nat) : Int) := by
  have e : Int.fdiv (a : Int) 16 = ((a / 16 : Nat) : Int) := fdiv_nat a 16
  have e2 : (k : Int) + 1 = ((k + 1 : Nat) : Int) := by simp
  rw [e, e2, fmod_nat]
theorem news_pick {h₀ h : Heap} {L a : Addr} {o : Obj} {all news : List (Addr × Obj)} (N : News h₀ L h all) (hm : (a, o) ∈ all) (hs : ∀ q ∈ news, q ∈ all) : News h₀ L h ([(a, o)] ++ news) := fun q hq => by
  rcases List.mem_cons.mp hq with rfl | hq
  · exact N _ hm
  · exact N _ (hs q hq)
section
variable (w : World) (p : Program) (loose : List Str) (mean : ExcName → Option Value) (mg mb : Str → Option Value) (news : List (Addr × Obj))
set_option maxRecDepth 100000 in
set_option maxHeartbeats 8000000 in
theorem C_rowsM (R D : Addr) (eB eR : Int) (tB tR : Tok) (k : Nat) (tk_1 : Tok) (c : Nat) (a0 : Addr) (l0 r0 : Tre) (g0 : Value) (hk9 : k ≤ 9) 
   (hR : (R, instObj 138 D) ∈ news) (hD : (D, dictOf [⟨eB, .str (Str.ofString "bits") tB, .int (k : Int) tk_1⟩, ⟨eR, .str (Str.ofString "root") tR, .ref a0⟩] c) ∈ news)
   (ht : ∀ q ∈ (Tre.node a0 l0 r0 g0).objs, q ∈ news) (hf : (Tre.node a0 l0 r0 g0).er.fit k) (hsz : (Tre.node a0 l0 r0 g0).sz ≤ 100000) :
   Con w p loose mean mg mb 135 [.ref R] 20 200 news
     (RwOut (rowsS (Tre.node a0 l0 r0 g0).er k 0 0) news) := by
  intro dp un gd cn cs ad ccd cl outer A₀ base h₀ L m s Q E BB F X N TT hkk hd hu hret
  refine wpAny_call ?_
  first | k_dflt ktr_enter | fail "enter"
  k_steps
  rename News _ _ _ _ => N1
  rename Fr _ _ _ _ => F1
  refine' con_use (C_rows w p loose mean mg mb _ a0 l0 r0 g0 k tk_1 hk9 ht hf hsz) ?k1 F1 ?k3 N1 ?k5 ?kK ?kd ?ku ?_
  (case k1 => k_asm)
  (case k3 => k_asm)
  (case k5 => k_asm)
  (case kK => exact rfl)
  (case kd => ktr_room)
  (case ku => ktr_units)
  intro r9 nx9 h9 tk9 F9 N9 O9
  obtain ⟨O, vs, c, add, q9, q8, O9⟩ := O9
  subst q9; subst q8
  k_steps
  exact hret _ _ _ _ (by k_asm) (by k_asm) ⟨O, vs, c, add, rfl, rfl, O9⟩
end
end
section -- Q1
theorem kqdOk_mono : ∀ {n : Nat} {d : Dat}, kqdOk n d = true → ∀ {k : Nat}, n ≤ k → kqdOk k d = true := by
  intro n
  induction n with
  | zero => intro d h k _; cases d <;> simp_all [kqdOk]
  | succ n ih =>
    intro d h k hk
    cases k with
    | zero => omega
    | succ k =>
      have hk' : n ≤ k := by omega
      cases d with
      | tuple ds =>
        simp only [kqdOk, List.all_eq_true] at h ⊢
        exact fun x hx => ih (h x hx) hk'
      | list ds =>
        simp only [kqdOk, List.all_eq_true] at h ⊢
        exact fun x hx => ih (h x hx) hk'
      | _ => simp_all [kqdOk]
/-- rows with their goals -/
noncomputable def Rows (news : List (Addr × Obj)) (vs : List Value) (rs : List Rw) : Prop := RowsIn news vs rs ∧ ∀ r ∈ rs, GoalIn news r.g
theorem Rows.mono {l l' : List (Addr × Obj)} (hs : ∀ p ∈ l, p ∈ l') {vs : List Value} {rs : List Rw} (h : Rows l vs rs) : Rows l' vs rs := ⟨h.1.mono hs, fun r hr => (h.2 r hr).mono hs⟩
theorem Rows.dat2 {l : List (Addr × Obj)} : ∀ {vs ws : List Value} {rs : List Rw}, Rows l vs rs → RowsIn l ws rs → ∃ ds, DatAll l vs ds ∧ DatAll l ws ds ∧ ∀ d ∈ ds, kqdOk 8 d = true
  | _, _, _, ⟨.nil, _⟩, .nil => ⟨[], .nil, .nil, fun _ h => nomatch h⟩
  | _, _, _, ⟨.cons m1 h1, hg⟩, .cons m2 h2 => by
    rename_i a r t1 t2 n vs rs a' t1' t2' n' ws
    obtain ⟨ds, d1, d2, ok⟩ := Rows.dat2 ⟨h1, fun r hr => hg r (.tail _ hr)⟩ h2
    obtain ⟨d, g1, g2, _⟩ := hg _ (.head _)
    refine ⟨.tuple [.int r.b, .int r.l, d] :: ds, .cons (.tuple (vs := [.int (r.b : Int) t1, .int (r.l : Int) t2, r.g]) m1 (.cons (.int _ _) (.cons (.int _ _) (.cons g1 .nil)))) d1, .cons (.tuple (vs := [.int (r.b : Int) t1', .int (r.l : Int) t2', r.g]) m2 (.cons (.int _ _) (.cons (.int _ _) (.cons g1 .nil)))) d2, ?_⟩
    intro e he
    rcases List.mem_cons.mp he with rfl | he
    · have := kqdOk_mono g2 (k := 7) (by omega)
      simp [kqdOk, this]
    · exact ok e he
/-- the goals of a trie -/
noncomputable def Shp.gs (news : List (Addr × Obj)) : Shp → Prop
  | .nil => True
  | .node l r g => (g = .none ∨ GoalIn news g) ∧ l.gs news ∧ r.gs news
theorem Shp.gs_rows {news : List (Addr × Obj)} : ∀ (t : Shp) (n b d : Nat), (∀ r ∈ rowsS t n b d, GoalIn news r.g) → t.gs news
  | .nil, _, _, _, _ => trivial
  | .node l r g, n, b, d, h => by
    rw [rowsS] at h
    refine ⟨?_, Shp.gs_rows l (n - 1) b (d + 1) fun x hx => h x (List.mem_append_right _ (List.mem_append_left _ hx)), Shp.gs_rows r (n - 1) _ (d + 1) fun x hx => h x (List.mem_append_right _ (List.mem_append_right _ hx))⟩
    by_cases hg : (g == .none) = true
    · left
      cases g <;> first | rfl | simp at hg
    · right
      exact h ⟨b, d, g⟩ (List.mem_append_left _ (by rw [if_neg hg]; exact .head _))
theorem trie_dat {news : List (Addr × Obj)} : ∀ (n : Nat) (t u : Tre), t.er = u.er → t.er.fit n → (∀ q ∈ t.objs, q ∈ news) → (∀ q ∈ u.objs, q ∈ news) → t.er.gs news → ∃ d, DatIn news t.val d ∧ DatIn news u.val d ∧ kqdOk (n + 4) d = true
  | _, .nil, .nil, _, _, _, _, _ => ⟨.none, .none, .none, by simp [kqdOk]⟩
  | _, .nil, .node _ _ _ _, h, _, _, _, _ => by cases h
  | _, .node _ _ _ _, .nil, h, _, _, _, _ => by cases h
  | n, .node a l r g, .node a' l' r' g', h, hf, ht, hu, hg => by
    have e : Shp.node l.er r.er g = Shp.node l'.er r'.er g' := h
    injection e with e1 e2 e3
    subst e3
    have hg' : (g = .none ∨ GoalIn news g) ∧ l.er.gs news ∧ r.er.gs news := hg
    have hfl : l.er.fit (n - 1) ∧ r.er.fit (n - 1) := by
      cases n with
      | zero =>
        have h' : l.er = .nil ∧ r.er = .nil := hf
        rw [h'.1, h'.2]
        exact ⟨trivial, trivial⟩
      | succ n => exact hf
    have hn0 : n = 0 → l.er = .nil ∧ r.er = .nil := by
      intro q; subst q; exact hf
    have sl : ∀ q ∈ l.objs, q ∈ news := fun q hq => ht q (.tail _ (List.mem_append_left _ hq))
    have sr : ∀ q ∈ r.objs, q ∈ news := fun q hq => ht q (.tail _ (List.mem_append_right _ hq))
    have sl' : ∀ q ∈ l'.objs, q ∈ news := fun q hq => hu q (.tail _ (List.mem_append_left _ hq))
    have sr' : ∀ q ∈ r'.objs, q ∈ news := fun q hq => hu q (.tail _ (List.mem_append_right _ hq))
    obtain ⟨d1, a1, b1, c1⟩ := trie_dat (n - 1) l l' e1 hfl.1 sl sl' hg'.2.1
    obtain ⟨d2, a2, b2, c2⟩ := trie_dat (n - 1) r r' e2 hfl.2 sr sr' hg'.2.2
    obtain ⟨d3, a3, c3⟩ : ∃ d, DatIn news g d ∧ kqdOk 3 d = true := by
      rcases hg'.1 with rfl | ⟨d, q1, q2, _⟩
      · exact ⟨.none, .none, by simp [kqdOk]⟩
      · exact ⟨d, q1, q2⟩
    refine ⟨.list [d1, d2, d3], .list (vs := [l.val, r.val, g]) (ht _ (.head _)) (.cons a1 (.cons a2 (.cons a3 .nil))), .list (vs := [l'.val, r'.val, g]) (hu _ (.head _)) (.cons b1 (.cons b2 (.cons a3 .nil))), ?_⟩
    have k3 := kqdOk_mono c3 (k := n + 3) (by omega)
    rcases Nat.eq_zero_or_pos n with hz | hz
    · have z := hn0 hz
      cases l with
      | node _ _ _ _ => cases z.1
      | nil =>
        cases r with
        | node _ _ _ _ => cases z.2
        | nil =>
          cases a1; cases a2
          simp [kqdOk, k3]
    · have k1 := kqdOk_mono c1 (k := n + 3) (by omega)
      have k2 := kqdOk_mono c2 (k := n + 3) (by omega)
      simp [kqdOk, k1, k2, k3]
section
variable {prog : Program} {w : World} {A : Around} {E : Value → Shared → Prop} {s : Shared} {h₀ : Heap} {L : Addr} {news n₁ : List (Addr × Obj)} {a b : Value} {d : PyData} {as bs : List Addr} {Q : Value → Shared → Prop}
theorem ne_same (ra : Reads s.heap a d as) (rb : Reads s.heap b d bs) (hd : SeqAt.shaped d = true) (hu : A.units + 64 < cLine) (h : Q (.bool false) s) : wpAny (model prog w) A (compareOp .NotEq a b) Q E s :=
  ne_dataH ra rb hd hd hu (by rw [SeqAt.eqv_refl d (SeqAt.canLay_of_shaped hd)]; exact h)
theorem eq_same (ra : Reads s.heap a d as) (rb : Reads s.heap b d bs) (hd : SeqAt.shaped d = true) (hu : A.units + 64 < cLine) (h : Q (.bool true) s) : wpAny (model prog w) A (compareOp .Eq a b) Q E s :=
  eq_dataH ra rb hd hd hu (by rw [SeqAt.eqv_refl d (SeqAt.canLay_of_shaped hd)]; exact h)
theorem kqd_shaped {n : Nat} {e : Dat} (h : kqdOk n e = true) (hn : n ≤ 64) : SeqAt.shaped (kqdP e) = true := by
  have l := kqd_lay n e h
  unfold SeqAt.shaped
  rw [l.1, Bool.true_and]
  exact decide_eq_true (Nat.le_trans l.2 hn)
/-- two tries of one shape -/
theorem ne_trie {t u : Tre} {k : Nat} (N : News h₀ L s.heap news) (e : t.er = u.er) (hf : t.er.fit k) (hk : k ≤ 9) (ht : ∀ q ∈ t.objs, q ∈ news) (hu' : ∀ q ∈ u.objs, q ∈ news) (hg : t.er.gs news) (hu : A.units + 64 < cLine) (h : Q (.bool false) s) :
    wpAny (model prog w) A (compareOp .NotEq t.val u.val) Q E s := by
  obtain ⟨d, d1, d2, ok⟩ := trie_dat k t u e hf ht hu' hg
  obtain ⟨as, r1⟩ := kqd_in N _ d1 ok
  obtain ⟨bs, r2⟩ := kqd_in N _ d2 ok
  exact ne_same r1 r2 (kqd_shaped ok (by omega)) hu h
theorem eq_trie {t u : Tre} {k : Nat} (N : News h₀ L s.heap news) (e : t.er = u.er) (hf : t.er.fit k) (hk : k ≤ 9) (ht : ∀ q ∈ t.objs, q ∈ news) (hu' : ∀ q ∈ u.objs, q ∈ news) (hg : t.er.gs news) (hu : A.units + 64 < cLine) (h : Q (.bool true) s) :
    wpAny (model prog w) A (compareOp .Eq t.val u.val) Q E s := by
  obtain ⟨d, d1, d2, ok⟩ := trie_dat k t u e hf ht hu' hg
  obtain ⟨as, r1⟩ := kqd_in N _ d1 ok
  obtain ⟨bs, r2⟩ := kqd_in N _ d2 ok
  exact eq_same r1 r2 (kqd_shaped ok (by omega)) hu h
/-- two lists of the same rows -/
theorem ne_rows {x y : Addr} {vs ws : List Value} {n k : Nat} {rs : List Rw} (N : News h₀ L s.heap news) (mx : (x, listOf vs.toArray n) ∈ news) (my : (y, listOf ws.toArray k) ∈ news) (h1 : Rows news vs rs) (h2 : RowsIn news ws rs) (hu : A.units + 64 < cLine) (h : Q (.bool false) s) :
    wpAny (model prog w) A (compareOp .NotEq (.ref x) (.ref y)) Q E s := by
  obtain ⟨ds, d1, d2, ok⟩ := h1.dat2 h2
  have ok9 : kqdOk 9 (.list ds) = true := by simpa [kqdOk] using ok
  obtain ⟨as, r1⟩ := kqd_in N 9 (.list mx d1) ok9
  obtain ⟨bs, r2⟩ := kqd_in N 9 (.list my d2) ok9
  exact ne_same r1 r2 (kqd_shaped ok9 (by omega)) hu h
theorem ne_nil_at {x y : Addr} {vs : List Value} {n k : Nat} {rs : List Rw} (N : News h₀ L s.heap news) (mx : (x, listOf vs.toArray n) ∈ news) (my : (y, listOf #[] k) ∈ news) (h1 : Rows n₁ vs rs) (hs : ∀ p ∈ n₁, p ∈ news) (hu : A.units + 64 < cLine) (h : Q (.bool (!rs.isEmpty)) s) :
    wpAny (model prog w) A (compareOp .NotEq (.ref x) (.ref y)) Q E s := by
  obtain ⟨ds, d1, _, ok⟩ := (h1.mono hs).dat2 (h1.mono hs).1
  have e1 := h1.1.length
  have e2 := d1.length
  refine kqd_ne N mx rfl rfl d1 (fun _ h => h) my rfl rfl (ys := []) .nil (n₂ := []) (fun _ h => nomatch h) ok (fun _ h => nomatch h) hu ?_
  have e3 : decide (ds = []) = rs.isEmpty := by
    cases ds <;> cases rs <;> simp_all
  rw [e3]; exact h
theorem eq_nil_at {x y : Addr} {vs : List Value} {n k : Nat} {rs : List Rw} (N : News h₀ L s.heap news) (mx : (x, listOf vs.toArray n) ∈ news) (my : (y, listOf #[] k) ∈ news) (h1 : Rows n₁ vs rs) (hs : ∀ p ∈ n₁, p ∈ news) (hu : A.units + 64 < cLine) (h : Q (.bool rs.isEmpty) s) :
    wpAny (model prog w) A (compareOp .Eq (.ref x) (.ref y)) Q E s := by
  obtain ⟨ds, d1, _, ok⟩ := (h1.mono hs).dat2 (h1.mono hs).1
  have e1 := h1.1.length
  have e2 := d1.length
  refine kqd_eq N mx rfl rfl d1 (fun _ h => h) my rfl rfl (ys := []) .nil (n₂ := []) (fun _ h => nomatch h) ok (fun _ h => nomatch h) hu ?_
  have e3 : decide (ds = []) = rs.isEmpty := by
    cases ds <;> cases rs <;> simp_all
  rw [e3]; exact h
end
end
section -- Rul2
open PyProof.Rows.LCg
section
variable {prog : Program} {w : World} {A : Around} {E : Value → Shared → Prop} {s : Shared} {env : Env} {body : List Stmt} {Q : Flow → Shared → Prop} {h₀ : Heap} {L l I : Addr} {m : Str → Option Value} {rest : List (Addr × Obj)}
theorem for_turnT {target : Expr} {it : Value} (h : wpAny (model prog w) A (pyNext it) (fun r s₁ => match r with
      | none => Q .next s₁
      | some v => wpAny (model prog w) A (letOwnedTupleGo target it v) (fun _ s₀ => wpAny (model prog w) A (assign target env v) (fun _ s₂ => wpAny (model prog w) A (execs body env) (ForPost prog w A env target it body Q) (fun _ _ => False) s₂) (fun _ _ => False) s₀) (fun _ _ => False) s₁)
      (fun _ _ => False) s) : ForRest prog w A env target it body Q s := by
  refine codeAny_of_tree ?_
  show wpAny (model prog w) A ((forTurn target it body [] env).onRaise (fun x => do noteFrame x env; theTreesLotGoes x)) _ _ s
  refine wpAny_noted ?_
  simp only [forTurn]
  refine wpAny_bind (wpAny_standAt (wpAny_bind (wpAny_onRaise (wpAny_mono h (fun r s₁ h₁ => ?_) fun _ _ h' => h'.elim))))
  cases r with
  | none => exact wpAny_pure ⟨rfl, codeAny_block (wpAny_execs_nil h₁)⟩
  | some v =>
    refine wpAny_bind (wpAny_mono h₁ (fun _ s₀ h₀ => ?_) fun _ _ h' => h'.elim)
    refine wpAny_bind (wpAny_mono h₀ (fun _ s₂ h₂ => wpAny_bind (wpAny_mono h₂ (fun f s₃ h₃ => ?_) fun _ _ h' => h'.elim)) fun _ _ h' => h'.elim)
    cases f with
    | next => exact wpAny_pure ⟨rfl, h₃⟩
    | cont => exact wpAny_pure ⟨rfl, h₃⟩
    | brk => exact wpAny_pure h₃
    | ret v => exact wpAny_pure h₃
/-- a turn of a for with a tuple of names -/
theorem for_itemT {elts : List Expr} {x1} {tp : Pos} {its : Array Value} {n i : Nat} {x : Addr} {o : Obj} (F : Fr h₀ L s.heap m) (N : News h₀ L s.heap ((I, o) :: rest)) (hO : ItL o l i) (off : ∀ p ∈ rest, p.1 ≠ I) (hm : (l, listOf its n) ∈ rest) (hx : its[i]? = some (.ref x))
    (h : ∀ o' h', ItL o' l (i + 1) → Fr h₀ L h' m → News h₀ L h' ((I, o') :: rest) →
      wpAny (model prog w) A (assign (.Tuple elts x1 tp) env (.ref x)) (fun _ s₂ => wpAny (model prog w) A (execs body env) (ForPost prog w A env (.Tuple elts x1 tp) (.ref I) body Q) (fun _ _ => False) s₂) (fun _ _ => False) { s with heap := h' }) :
    ForRest prog w A env (.Tuple elts x1 tp) (.ref I) body Q s :=
  for_turnT (next_list F N hO off hm hx fun o' h' hO' F' N' => wpAny_letOwnedTupleGo_listiter ⟨o', (N' _ (.head _)).1, hO'.1, hO'.2⟩ (h o' h' hO' F' N'))
theorem for_endT {elts : List Expr} {x1} {tp : Pos} {its : Array Value} {n i : Nat} {o : Obj} (hh : A.handled = none) (F : Fr h₀ L s.heap m) (N : News h₀ L s.heap ((I, o) :: rest)) (hO : ItL o l i) (off : ∀ p ∈ rest, p.1 ≠ I) (hm : (l, listOf its n) ∈ rest) (hx : its.size ≤ i)
    (h : ∀ h', Fr h₀ L h' m → News h₀ L h' rest → Q .next { s with heap := h' }) : ForRest prog w A env (.Tuple elts x1 tp) (.ref I) body Q s :=
  for_turnT (next_list_end hh F N hO off hm hx fun h' F' N' => h h' F' N')
end
section
variable {prog : Program} {w : World} {A : Around} {E : Value → Shared → Prop} {s : Shared} {env : Env} {h₀ : Heap} {L : Addr} {m : Str → Option Value}
theorem hold_any {P : Prop} (h : Hold P) : P := h
/-- a comprehension with one test, by induction over what is left -/
theorem compT_ind {ct elt : Expr} {x : Str} {scope : Scope} {cl : List (Str × Addr)} {S : List (Addr × Obj) → Prop} {P : Nat → Value → Prop} {Fin : List Value → List (Addr × Obj) → Prop} {news : List (Addr × Obj)} {n : Nat} (J : Nat → List Value → Prop)
    (step : ∀ k i ys, i + (k + 1) = n → J i ys → (∀ ys', J (i + 1) ys' → LCt.CompRestT prog w A h₀ L m env ct elt x scope cl s S P Fin k (i + 1) ys' news) → LCt.CompRestT prog w A h₀ L m env ct elt x scope cl s S P Fin (k + 1) i ys news)
    (done : ∀ ys, J n ys → Fin ys news) : ∀ k i ys, i + k = n → J i ys → LCt.CompRestT prog w A h₀ L m env ct elt x scope cl s S P Fin k i ys news
  | 0, i, ys, e, h => by
    have e' : i = n := e
    subst e'
    exact LCt.CompRestT.zero (done ys h)
  | k + 1, i, ys, e, h => step k i ys e h fun ys' h' => compT_ind J step done k (i + 1) ys' (by omega) h'
theorem off3_of {I C D : Addr} {news : List (Addr × Obj)} (h : ∀ q ∈ news, q.1 ≠ I ∧ q.1 ≠ C ∧ q.1 ≠ D) : Off3 I C D news := Off3.of h
inductive End3 (h₀ : Heap) (L : Addr) (m : Str → Option Value) (s₁ : Shared) (I : Addr) (oI : Obj) (C : Addr) (oC : Obj) (D : Addr) (ys : List Value) (news add : List (Addr × Obj)) (J : List Value → List (Addr × Obj) → Prop) (u : Value) (s' : Shared) : Prop
  | mk (h' : Heap) (tk' : Nat) (add' : List (Addr × Obj)) (e : s' = { s₁ with heap := h', toks := tk' }) (F : Fr h₀ L h' m) (N : News h₀ L h' ((I, oI) :: (C, oC) :: (D, lst ys) :: (add' ++ news))) (off : ∀ q ∈ add', q ∈ add ∨ (q.1 ≠ I ∧ q.1 ≠ C ∧ q.1 ≠ D)) (hJ : J (ys ++ [u]) add') : End3 h₀ L m s₁ I oI C oC D ys news add J u s'
/-- what stands at a turn of a comprehension -/
inductive CpSt (s₁ : Shared) (h₀ : Heap) (L : Addr) (m : Str → Option Value) (I C D : Addr) (news : List (Addr × Obj)) (J : Nat → List Value → List (Addr × Obj) → Prop) (It : Obj → Nat → Prop) (n k : Nat) (s' : Shared) : Prop
  | mk (h : Heap) (tk i : Nat) (ys : List Value) (add : List (Addr × Obj)) (oI oC : Obj) (mC : Str → Option Value) (e : s' = { s₁ with heap := h, toks := tk }) (hi : i ≤ n) (hk : k = n + 1 - i) (hl : ys.length = i) (hO : It oI i) (F : Fr h₀ L h m)
    (N : News h₀ L h ((I, oI) :: (C, oC) :: (D, lst ys) :: (add ++ news))) (hC : NsObj oC mC) (off : ∀ q ∈ add ++ news, q.1 ≠ I ∧ q.1 ≠ C ∧ q.1 ≠ D) (hJ : J i ys add) : CpSt s₁ h₀ L m I C D news J It n k s'
inductive Src3 (prog : Program) (w : World) (A : Around) (h₀ : Heap) (L : Addr) (m : Str → Option Value) (env : Env) (elt : Expr) (x y z : Str) (scope : Scope) (cl : List (Str × Addr)) (Q : Value → Shared → Prop) (xv : Value) (s₁ : Shared) : Prop
  | mk (ax : Addr) (vs : List Value) (n : Nat) (news : List (Addr × Obj)) (J : Nat → List Value → List (Addr × Obj) → Prop) (f0 : xv = .ref ax) (f1 : A.handled = none) (f2 : Fr h₀ L s₁.heap m) (f3 : News h₀ L s₁.heap news) (f4 : (ax, listOf vs.toArray n) ∈ news) (f5 : vs.length ≤ sizeLine) (f6 : J 0 [] []) (f7 : (∀ i ys add v, J i ys add → vs[i]? = some v → ∃ (t : Addr) (v1 v2 v3 : Value) (nt : Nat), v = .ref t ∧ (t, tupO #[v1, v2, v3] nt) ∈ news ∧
      ∀ I oI C oC D m₂ h tk (E' : Value → Shared → Prop), NsObj oC m₂ → m₂ x = some v1 → m₂ y = some v2 → m₂ z = some v3 → Fr h₀ L h m → News h₀ L h ((I, oI) :: (C, oC) :: (D, lst ys) :: (add ++ news)) → (∀ q ∈ (I, oI) :: (C, oC) :: (D, lst ys) :: (add ++ news), q.1 < h.objs.size) →
        wpAny (model prog w) A (eval elt (compEnvC scope cl C env)) (End3 h₀ L m s₁ I oI C oC D ys news add (J (i + 1))) E' { s₁ with heap := h, toks := tk })) (f8 : (∀ D h tk ys add, J vs.length ys add → ys.length = vs.length → Fr h₀ L h m → News h₀ L h ((D, lst ys) :: (add ++ news)) → (∀ q ∈ add ++ news, q.1 ≠ D) → Q (.ref D) { s₁ with heap := h, toks := tk })) : Src3 prog w A h₀ L m env elt x y z scope cl Q xv s₁
theorem ListComp_3 {elt iter : Expr} {x y z : Str} {px py pz tp : Pos} {x1} {scope : Scope} {cl : List (Str × Addr)} {pos : Pos} {Q : Value → Shared → Prop} (_F₀ : Fr h₀ L s.heap m)
    (hclos : closureFor scope env = pure cl) (hcell : ∀ y ∈ scope.names, y.2 ≠ .cell) (hkind : scope.kind = .function)
    (hnames : ∀ y ∈ scope.names, y.2 = .local → scope.names.lookup y.1 = some .local) (hx : scope.names.lookup x = some .local) (hy : scope.names.lookup y = some .local) (hz : scope.names.lookup z = some .local) (hxy : x ≠ y) (hxz : x ≠ z) (hyz : y ≠ z)
    (h : wpAny (model prog w) A (eval iter env) (Src3 prog w A h₀ L m env elt x y z scope cl Q) E s)
    (hs : ∀ x, foldedSetIterable iter env x = pure x := by intro _; rfl) :
    wpAny (model prog w) A (eval (.ListComp elt [⟨.Tuple [.Name x px, .Name y py, .Name z pz] x1 tp, iter, [], 0⟩] scope pos) env) Q E s := by
  rw [eval_ListComp]
  refine wpAny_comprehension_free (use := none) rfl hs hclos hkind hnames (wpAny_mono h (fun xv s₁ h₁ => ?_) fun _ _ e => e)
  obtain ⟨ax, vs, n, news, J, rfl, hh, F, N, hm, hsz, J0, turn, done⟩ := h₁
  refine iter_list F N hm fun I oI h₁ hO F₁ N₁ lt₁ => ?_
  refine wpAny_newObj_type (wpAny_newFunctionEnv hcell (by intro y hy; simp at hy) (fun h₂ hns₂ hsb₂ => ?_) hkind)
  dsimp only at hns₂ hsb₂ ⊢
  generalize hH2 : h₁.push { cls := .type "list", dict := none, data := .seq ([] : List Value).toArray } = H2 at hns₂ hsb₂ ⊢
  have hC : H2.objs.size = h₁.objs.size + 1 := by rw [← hH2, Heap.size_push]
  generalize hDd : h₁.objs.size = D at hC hH2 ⊢
  generalize hCd : H2.objs.size = C at hC hns₂ hsb₂ ⊢
  have old : ∀ b o, h₁.get? b = some o → b ≠ C ∧ b ≠ D ∧ h₂.get? b = some o := fun b o e => by
    have hb : b < h₁.objs.size := Heap.lt_size e
    have hb1 : b ≠ C := by rw [hC, ← hDd]; exact Nat.ne_of_lt (Nat.lt_succ_of_lt hb)
    have hb2 : b ≠ D := by rw [← hDd]; exact Nat.ne_of_lt hb
    exact ⟨hb1, hb2, hsb₂.extBut b o hb1 (Heap.get?_push_of_some _ (hH2 ▸ Heap.get?_push_of_some _ e))⟩
  have hDC : D ≠ C := by rw [hC]; exact Nat.ne_of_lt (Nat.lt_succ_self _)
  have hacc : h₂.get? D = some (lst []) := hsb₂.extBut _ _ hDC (Heap.get?_push_of_some _ (by rw [← hH2, ← hDd]; exact Heap.get?_push_size _ rfl))
  have fresh₀ : ∀ a, D ≤ a → h₀.get? a = none := fun a ha => by
    cases e : h₀.get? a with
    | none => rfl
    | some o' =>
      have := Heap.lt_size (F₁.keep a o' e)
      rw [hDd] at this
      exact absurd this (Nat.not_lt.mpr ha)
  have hD₀ : h₀.get? D = none := fresh₀ _ (Nat.le_refl _)
  have hC₀ : h₀.get? C = none := fresh₀ _ (by rw [hC]; exact Nat.le_succ _)
  have hLlt : L < D := by rw [← hDd]; exact F₁.ns.lt
  have hDL : D ≠ L := Ne.symm (Nat.ne_of_lt hLlt)
  have hCL : C ≠ L := by rw [hC]; exact Ne.symm (Nat.ne_of_lt (Nat.lt_succ_of_lt hLlt))
  obtain ⟨oC, heC, hoC⟩ := ns_obj hns₂
  have F₂ : Fr h₀ L h₂ m := F₁.keeps fun b o e => (old b o e).2.2
  have N₂ : News h₀ L h₂ ((I, oI) :: (C, oC) :: (D, lst []) :: ([] ++ news)) := by
    intro p hp
    rcases List.mem_cons.mp hp with rfl | hp
    · have z := N₁ _ (.head _)
      exact ⟨(old _ _ z.1).2.2, z.2⟩
    rcases List.mem_cons.mp hp with rfl | hp
    · exact ⟨heC, hCL, hC₀⟩
    rcases List.mem_cons.mp hp with rfl | hp
    · exact ⟨hacc, hDL, hD₀⟩
    · have z := N₁ p (.tail _ hp)
      exact ⟨(old _ _ z.1).2.2, z.2⟩
  have hI := old _ _ (N₁ _ (.head _)).1
  have off₂ : ∀ q ∈ ([] : List (Addr × Obj)) ++ news, q.1 ≠ I ∧ q.1 ≠ C ∧ q.1 ≠ D := fun q hq => by
    have z := old _ _ (N₁ q (.tail _ hq)).1
    exact ⟨Nat.ne_of_lt (lt₁ q hq), z.1, z.2.1⟩
  have loop : ∀ s₃ : Shared, (∃ tk, s₃ = { s₁ with heap := h₂, toks := tk }) →
      codeAny (model prog w) A (.compLoop (.ListComp elt [⟨.Tuple [.Name x px, .Name y py, .Name z pz] x1 tp, iter, [], 0⟩] scope pos) 0 (.ref I) (.ref D) (compEnvC scope cl C env)) (compPost (model prog w) A E none Q (.ref D) C) s₃ := by
    rintro s₃ ⟨tk₃, rfl⟩
    refine kcp_loop (CpSt s₁ h₀ L m I C D news J (fun oI i => ItL oI ax i) vs.length) ?_ (vs.length + 1) ⟨h₂, _, 0, [], [], oI, oC, _, rfl, Nat.zero_le _, rfl, rfl, hO, F₂, N₂, hoC, off₂, J0⟩
    rintro k s' ⟨h, tk, i, ys, add, oI, oC, mC, rfl, hi, rfl, hyl, hO, F, N, hoC, off, hJ⟩
    have offI : ∀ q ∈ (C, oC) :: (D, lst ys) :: (add ++ news), q.1 ≠ I := fun q hq => by
      rcases List.mem_cons.mp hq with rfl | hq
      · exact Ne.symm hI.1
      rcases List.mem_cons.mp hq with rfl | hq
      · exact Ne.symm hI.2.1
      · exact (off q hq).1
    have hmx : (ax, listOf vs.toArray n) ∈ (C, oC) :: (D, lst ys) :: (add ++ news) := .tail _ (.tail _ (List.mem_append_right _ hm))
    by_cases hlt : i < vs.length
    · obtain ⟨v, hv⟩ : ∃ v, vs[i]? = some v := ⟨_, List.getElem?_eq_getElem hlt⟩
      refine Classical.byContradiction fun hno9 => ?_
      obtain ⟨t, v1, v2, v3, nt, rfl, hmt, tn⟩ := turn i ys add v hJ hv
      refine hno9 ?_
      clear hno9
      refine next_list F N hO offI hmx (by simpa using hv) fun oI' h₃ hO' F₃ N₃ => ?_
      refine wpAny_letOwnedTupleGo_listiter ⟨oI', (N₃ _ (.head _)).1, hO'.1, hO'.2⟩ ?_
      have htup := N₃ _ (.tail _ (.tail _ (.tail _ (List.mem_append_right _ hmt))))
      refine assign_Tuple_tuple hh ⟨_, htup.1, rfl, nt, rfl⟩ rfl rfl fun h₄ he₄ => ?_
      have up₄ : ∀ b o, h₃.get? b = some o → h₄.get? b = some o := fun b o e => he₄ b o (Nat.ne_of_lt (Heap.lt_size e)) e
      have hC3 := (N₃ _ (.tail _ (.head _))).1
      have hn₄ : h₄.Ns C mC := hoC.ns (up₄ _ _ hC3)
      refine assignInOrder_cons (wpAny_assign_Name (wpAny_storeName_local (lookup_relabel_local hx) hn₄ (fun h₅ hn₅ hs₅ => ?_) (by simp [compEnvC, relabel, hkind])))
      refine assignInOrder_cons (wpAny_assign_Name (wpAny_storeName_local (lookup_relabel_local hy) hn₅ (fun h₆ hn₆ hs₆ => ?_) (by simp [compEnvC, relabel, hkind])))
      refine assignInOrder_cons (wpAny_assign_Name (wpAny_storeName_local (lookup_relabel_local hz) hn₆ (fun h₇ hn₇ hs₇ => ?_) (by simp [compEnvC, relabel, hkind])))
      refine assignInOrder_nil ?_
      have up₇ : ∀ b o, b ≠ C → h₃.get? b = some o → h₇.get? b = some o := fun b o hb e => hs₇.extBut b o hb (hs₆.extBut b o hb (hs₅.extBut b o hb (up₄ b o e)))
      obtain ⟨oC', heC', hoC'⟩ := ns_obj hn₇
      have F₇ : Fr h₀ L h₇ m := (((F₃.keeps up₄).change hs₅ hCL hC₀).change hs₆ hCL hC₀).change hs₇ hCL hC₀
      have N₇ : News h₀ L h₇ ((I, oI') :: (C, oC') :: (D, lst ys) :: (add ++ news)) := fun p hp => by
        rcases List.mem_cons.mp hp with rfl | hp
        · have z := N₃ _ (.head _)
          exact ⟨up₇ _ _ hI.1 z.1, z.2⟩
        rcases List.mem_cons.mp hp with rfl | hp
        · exact ⟨heC', hCL, hC₀⟩
        rcases List.mem_cons.mp hp with rfl | hp
        · have z := N₃ _ (.tail _ (.tail _ (.head _)))
          exact ⟨up₇ _ _ hDC z.1, z.2⟩
        · have z := N₃ p (.tail _ (.tail _ (.tail _ hp)))
          exact ⟨up₇ _ _ (off p hp).2.1 z.1, z.2⟩
      refine wpAny_mono (tn I oI' C oC' D _ h₇ _ _ hoC' (by simp [hxy, hxz]) (by simp [hyz]) (by simp) F₇ N₇ fun q hq => Heap.lt_size (N₇ q hq).1) (fun u s₈ h₈ => ?_) fun _ _ e => e
      obtain ⟨h₈, tk₈, add', rfl, F₈, N₈, off₈, hJ'⟩ := h₈
      have zD := (N₈ _ (.tail _ (.tail _ (.head _)))).1
      refine append_at (hsz := by show ys.toArray.size ≤ sizeLine; rw [List.size_toArray, hyl]; exact Nat.le_trans hi hsz) zD fun h₉ hs₉ hD₉ => ?_
      have off' : ∀ q ∈ add' ++ news, q.1 ≠ I ∧ q.1 ≠ C ∧ q.1 ≠ D := fun q hq => by
        rcases List.mem_append.mp hq with hq | hq
        · rcases off₈ q hq with z | z
          · exact off q (List.mem_append_left _ z)
          · exact z
        · exact off q (List.mem_append_right _ hq)
      refine ⟨vs.length + 1 - (i + 1), by omega, h₉, tk₈, i + 1, ys ++ [u], add', oI', oC', _, rfl, hlt, rfl, by rw [List.length_append, List.length_singleton, hyl], hO', F₈.change hs₉ hDL hD₀, fun p hp => ?_, hoC', off', hJ'⟩
      rcases List.mem_cons.mp hp with rfl | hp
      · have z := N₈ _ (.head _)
        exact ⟨hs₉.extBut _ _ hI.2.1 z.1, z.2⟩
      rcases List.mem_cons.mp hp with rfl | hp
      · have z := N₈ _ (.tail _ (.head _))
        exact ⟨hs₉.extBut _ _ (Ne.symm hDC) z.1, z.2⟩
      rcases List.mem_cons.mp hp with rfl | hp
      · exact ⟨hD₉.trans (congrArg some (lst_snoc ys u)), hDL, hD₀⟩
      · have z := N₈ p (.tail _ (.tail _ (.tail _ hp)))
        exact ⟨hs₉.extBut _ _ (off' p hp).2.2 z.1, z.2⟩
    · obtain rfl : i = vs.length := Nat.le_antisymm hi (Nat.not_lt.mp hlt)
      refine next_list_end hh F N hO offI hmx (by simp) fun h₃ F₃ N₃ => ?_
      have hC3 := (N₃ _ (.head _)).1
      refine ⟨mC, hoC.ns hC3, fun h'' hs'' => done D h'' tk ys add hJ hyl (F₃.change hs'' hCL hC₀) (fun p hp => ?_) fun q hq => (off q hq).2.2⟩
      have z := N₃ p (.tail _ hp)
      refine ⟨hs''.extBut _ _ ?_ z.1, z.2⟩
      rcases List.mem_cons.mp hp with rfl | hp
      · exact hDC
      · exact (off p hp).2.1
  exact codeAny_compStart_list (loop _ ⟨_, rfl⟩) (wpAny_pyIter_listiter ⟨_, (N₂ _ (.head _)).1, hO.1, hO.2⟩ (loop _ ⟨_, rfl⟩))
end
noncomputable def ItT (o : Obj) (t : Addr) (i : Nat) : Prop := o.cls = .type "tuple_iterator" ∧ o.data = .fields #[.ref t, .int i 0]
section
variable {prog : Program} {w : World} {A : Around} {E : Value → Shared → Prop} {s : Shared} {env : Env} {target : Expr} {body : List Stmt} {h₀ : Heap} {L l I : Addr} {m : Str → Option Value} {news rest : List (Addr × Obj)}
theorem iter_tup {its : Array Value} {n : Nat} {Q : Value → Shared → Prop} (F : Fr h₀ L s.heap m) (N : News h₀ L s.heap news) (hm : (l, tupO its n) ∈ news)
    (h : ∀ I o h', ItT o l 0 → Fr h₀ L h' m → News h₀ L h' ((I, o) :: news) → (∀ p ∈ news, p.1 < I) → Q (.ref I) { s with heap := h' }) : wpAny (model prog w) A (pyIter (.ref l)) Q E s :=
  iter_tuple ⟨_, (N _ hm).1, rfl, n, rfl⟩ (h _ _ _ ⟨rfl, rfl⟩ (F.push _) (N.push F _) fun p hp => Heap.lt_size (N p hp).1)
theorem next_tup {its : Array Value} {n i : Nat} {x : Value} {o : Obj} {Q : Option Value → Shared → Prop} (F : Fr h₀ L s.heap m) (N : News h₀ L s.heap ((I, o) :: rest)) (hO : ItT o l i) (off : ∀ p ∈ rest, p.1 ≠ I) (hm : (l, tupO its n) ∈ rest)
    (hx : its[i]? = some x) (h : ∀ o' h', ItT o' l (i + 1) → Fr h₀ L h' m → News h₀ L h' ((I, o') :: rest) → Q (some x) { s with heap := h' }) : wpAny (model prog w) A (pyNext (.ref I)) Q E s := by
  have NI := N _ (.head _)
  have Nr : News h₀ L s.heap rest := news_sub N fun p hp => .tail _ hp
  refine next_tuple_item ⟨_, NI.1, hO.1, hO.2⟩ ⟨_, (Nr _ hm).1, rfl, n, rfl⟩ hx fun h' hit' hs' => ?_
  obtain ⟨o', ho', hc, hd⟩ := hit'
  exact h o' h' ⟨hc, hd⟩ (Mine.fr_but F hs'.extBut NI.2.1 NI.2.2) (news_cons (Mine.news_but Nr hs'.extBut off) ho' NI.2.1 NI.2.2)
theorem next_tup_end {its : Array Value} {n i : Nat} {o : Obj} {Q : Option Value → Shared → Prop} (hh : A.handled = none) (F : Fr h₀ L s.heap m) (N : News h₀ L s.heap ((I, o) :: rest)) (hO : ItT o l i) (off : ∀ p ∈ rest, p.1 ≠ I) (hm : (l, tupO its n) ∈ rest)
    (hx : its.size ≤ i) (h : ∀ h', Fr h₀ L h' m → News h₀ L h' rest → Q none { s with heap := h' }) : wpAny (model prog w) A (pyNext (.ref I)) Q E s := by
  have NI := N _ (.head _)
  have Nr : News h₀ L s.heap rest := news_sub N fun p hp => .tail _ hp
  refine next_tuple_end hh ⟨_, NI.1, hO.1, hO.2⟩ ⟨_, (Nr _ hm).1, rfl, n, rfl⟩ (by simpa using hx) fun h' hs' => ?_
  exact h h' (Mine.fr_but F hs' NI.2.1 NI.2.2) (Mine.news_but Nr hs' off)
variable {Q : Flow → Shared → Prop}
theorem for_itemU {its : Array Value} {n i : Nat} {x : Value} {o : Obj} (F : Fr h₀ L s.heap m) (N : News h₀ L s.heap ((I, o) :: rest)) (hO : ItT o l i) (off : ∀ p ∈ rest, p.1 ≠ I) (hm : (l, tupO its n) ∈ rest) (hx : its[i]? = some x)
    (h : ∀ o' h', ItT o' l (i + 1) → Fr h₀ L h' m → News h₀ L h' ((I, o') :: rest) →
      wpAny (model prog w) A (assign target env x) (fun _ s₂ => wpAny (model prog w) A (execs body env) (ForPost prog w A env target (.ref I) body Q) (fun _ _ => False) s₂) (fun _ _ => False) { s with heap := h' })
    (ht : ∀ v, letOwnedTupleGo target (.ref I) v = pure () := by intro _; rfl) : ForRest prog w A env target (.ref I) body Q s :=
  for_turn (next_tup F N hO off hm hx fun o' h' hO' F' N' => h o' h' hO' F' N') ht
theorem for_endU {its : Array Value} {n i : Nat} {o : Obj} (hh : A.handled = none) (F : Fr h₀ L s.heap m) (N : News h₀ L s.heap ((I, o) :: rest)) (hO : ItT o l i) (off : ∀ p ∈ rest, p.1 ≠ I) (hm : (l, tupO its n) ∈ rest) (hx : its.size ≤ i)
    (h : ∀ h', Fr h₀ L h' m → News h₀ L h' rest → Q .next { s with heap := h' })
    (ht : ∀ v, letOwnedTupleGo target (.ref I) v = pure () := by intro _; rfl) : ForRest prog w A env target (.ref I) body Q s :=
  for_turn (next_tup_end hh F N hO off hm hx fun h' F' N' => h h' F' N') ht
end
section
variable {prog : Program} {w : World} {A : Around} {E : Value → Shared → Prop} {s : Shared} {h₀ : Heap} {L l : Addr} {news : List (Addr × Obj)}
theorem item_tup {value slice : Expr} {its : List Value} {n : Nat} {k : Int} {u : Tok} {v : Value} {Q : Value → Shared → Prop} (N : News h₀ L s.heap news) (hm : (l, tupO its.toArray n) ∈ news)
    (h0 : 0 ≤ k) (hfit : k < 2 ^ 63) (hx : its[k.toNat]? = some v) (h : Q v s)
    (hs : subscripted slice false (.ref l) (.int k u) = operate [.ref l, .int k u] (getItem (.ref l) (.int k u)) := by with_unfolding_all rfl) :
    wpAny (model prog w) A (subscriptTail value slice (.ref l) (.int k u)) Q E s := by
  refine item_tupleT (j := k.toNat) ⟨_, (N _ hm).1, rfl, n, rfl⟩ (by omega) hfit ?_ hx h hs
  have hlt := (List.getElem?_eq_some_iff.mp hx).1
  unfold seqIndex?
  have e : ¬ k < 0 := by omega
  have e2 : k < (its.length : Int) := by omega
  simp [e, e2]
  first | done | omega
end
end
section -- Row2
/-- every node below bears a row -/
noncomputable def Shp.tk : Shp → Prop
  | .nil => True
  | .node l r g => (g ≠ .none ∨ l ≠ .nil ∨ r ≠ .nil) ∧ l.tk ∧ r.tk
/-- a root with such children -/
noncomputable def Shp.tight : Shp → Prop
  | .nil => True
  | .node l r _ => l.tk ∧ r.tk
theorem none_beq {g : Value} : (g == .none) = true ↔ g = .none := by
  cases g <;> simp
theorem none_beq_f {g : Value} : (g == .none) = false ↔ g ≠ .none := by
  cases g <;> simp
theorem rowsS_ne {t : Shp} (h : t.tk) (hn : t ≠ .nil) (n b d : Nat) : rowsS t n b d ≠ [] := by
  induction t generalizing n b d with
  | nil => exact absurd rfl hn
  | node l r g il ir =>
    rw [rowsS]
    intro e
    obtain ⟨e1, e2⟩ := List.append_eq_nil_iff.mp e
    obtain ⟨e2, e3⟩ := List.append_eq_nil_iff.mp e2
    rcases h.1 with hg | hl | hr
    · rw [if_neg (fun q => hg (none_beq.mp q))] at e1
      cases e1
    · exact il h.2.1 hl _ _ _ e2
    · exact ir h.2.2 hr _ _ _ e3
theorem rowsS_bounds {t : Shp} {n : Nat} (hf : t.fit n) (b d : Nat) : ∀ q ∈ rowsS t n b d, d ≤ q.l ∧ q.l ≤ d + n ∧ b ≤ q.b ∧ q.b < b + 2 ^ n := by
  induction t generalizing n b d with
  | nil => intro q hq; cases hq
  | node l r g il ir =>
    intro q hq
    rw [rowsS] at hq
    have hp : 0 < 2 ^ n := Nat.pos_of_ne_zero (by simp)
    rcases List.mem_append.mp hq with hq | hq
    · split at hq
      · cases hq
      · rw [List.mem_singleton.mp hq]
        exact ⟨Nat.le_refl _, by simp, Nat.le_refl _, by simpa using hp⟩
    · cases n with
      | zero =>
        have h' : l = .nil ∧ r = .nil := hf
        rw [h'.1, h'.2] at hq
        cases hq
      | succ n =>
        have h' : l.fit n ∧ r.fit n := hf
        have e : 2 ^ (n + 1) = 2 ^ n + 2 ^ n := by rw [Nat.pow_succ]; omega
        have e1 : n + 1 - 1 = n := rfl
        rw [e1] at hq
        rcases List.mem_append.mp hq with hq | hq
        · have := il h'.1 _ _ q hq
          omega
        · have := ir h'.2 _ _ q hq
          omega
theorem rowsS_shift (t : Shp) : ∀ (n b d x y : Nat), rowsS t n (b + x) (d + y) = (rowsS t n b d).map fun q => ⟨q.b + x, q.l + y, q.g⟩ := by
  induction t with
  | nil => intro n b d x y; rfl
  | node l r g il ir =>
    intro n b d x y
    rw [rowsS, rowsS, List.map_append, List.map_append]
    have e1 : d + y + 1 = d + 1 + y := by omega
    have e2 : b + x + 2 ^ (n - 1) = b + 2 ^ (n - 1) + x := by omega
    rw [e1, e2, il, ir]
    congr 1
    split <;> rfl
/-- the rows of one side -/
theorem rowsS_side {l r : Shp} {g : Value} {n : Nat} (hf : (Shp.node l r g).fit (n + 1)) (s : Bool) :
    (rowsS (.node l r g) (n + 1) 0 0).filter (fun q => decide (0 < q.l) && decide (q.b / 2 ^ n = (if s then 1 else 0))) = rowsS (if s then r else l) n (if s then 2 ^ n else 0) 1 := by
  have h' : l.fit n ∧ r.fit n := hf
  have hp : 0 < 2 ^ n := Nat.pos_of_ne_zero (by simp)
  rw [rowsS, List.filter_append, List.filter_append]
  have e1 : n + 1 - 1 = n := rfl
  rw [e1]
  have z1 : (if (g == .none) = true then [] else [(⟨0, 0, g⟩ : Rw)]).filter (fun q => decide (0 < q.l) && decide (q.b / 2 ^ n = (if s then 1 else 0))) = [] := by
    split <;> simp
  rw [z1, List.nil_append]
  have bl := rowsS_bounds h'.1 0 1
  have br := rowsS_bounds h'.2 (0 + 2 ^ n) 1
  have ql : ∀ q ∈ rowsS l n 0 (0 + 1), 0 < q.l ∧ q.b / 2 ^ n = 0 := fun q hq => by
    have := bl q hq
    exact ⟨by omega, Nat.div_eq_of_lt (by omega)⟩
  have qr : ∀ q ∈ rowsS r n (0 + 2 ^ n) (0 + 1), 0 < q.l ∧ q.b / 2 ^ n = 1 := fun q hq => by
    have := br q hq
    refine ⟨by omega, ?_⟩
    have e : q.b = 2 ^ n * 1 + (q.b - 2 ^ n) := by omega
    rw [e, Nat.mul_add_div hp, Nat.div_eq_of_lt (by omega)]
  cases s with
  | false =>
    have f1 : (rowsS l n 0 (0 + 1)).filter (fun q => decide (0 < q.l) && decide (q.b / 2 ^ n = (if false = true then 1 else 0))) = rowsS l n 0 (0 + 1) := List.filter_eq_self.mpr fun q hq => by simp [ql q hq]
    have f2 : (rowsS r n (0 + 2 ^ n) (0 + 1)).filter (fun q => decide (0 < q.l) && decide (q.b / 2 ^ n = (if false = true then 1 else 0))) = [] := List.filter_eq_nil_iff.mpr fun q hq => by simp [qr q hq]
    rw [f1, f2, List.append_nil]; rfl
  | true =>
    have f1 : (rowsS l n 0 (0 + 1)).filter (fun q => decide (0 < q.l) && decide (q.b / 2 ^ n = (if true = true then 1 else 0))) = [] := List.filter_eq_nil_iff.mpr fun q hq => by simp [ql q hq]
    have f2 : (rowsS r n (0 + 2 ^ n) (0 + 1)).filter (fun q => decide (0 < q.l) && decide (q.b / 2 ^ n = (if true = true then 1 else 0))) = rowsS r n (0 + 2 ^ n) (0 + 1) := List.filter_eq_self.mpr fun q hq => by simp [qr q hq]
    rw [f1, f2, List.nil_append]
    simp
theorem rowsS_side0 {l r : Shp} {g : Value} (hf : (Shp.node l r g).fit 0) (p : Rw → Bool) : (rowsS (.node l r g) 0 0 0).filter (fun q => decide (0 < q.l) && p q) = [] := by
  have h' : l = .nil ∧ r = .nil := hf
  refine List.filter_eq_nil_iff.mpr fun q hq => ?_
  have := rowsS_bounds hf 0 0 q hq
  have : q.l = 0 := by omega
  simp [this]
/-- the rows of one side, as the rows of that trie -/
theorem rowsS_within {t : Shp} {n : Nat} (hf : t.fit n) (s : Bool) : (rowsS t n (if s then 2 ^ n else 0) 1).map (fun q => (⟨q.b % 2 ^ n, q.l - 1, q.g⟩ : Rw)) = rowsS t n 0 0 := by
  have e : rowsS t n (if s then 2 ^ n else 0) 1 = (rowsS t n 0 0).map fun q => ⟨q.b + (if s then 2 ^ n else 0), q.l + 1, q.g⟩ := by
    have := rowsS_shift t n 0 0 (if s then 2 ^ n else 0) 1
    simpa using this
  rw [e, List.map_map]
  have : ∀ q ∈ rowsS t n 0 0, ((fun q => (⟨q.b % 2 ^ n, q.l - 1, q.g⟩ : Rw)) ∘ fun q => (⟨q.b + (if s then 2 ^ n else 0), q.l + 1, q.g⟩ : Rw)) q = q := fun q hq => by
    have b := rowsS_bounds hf 0 0 q hq
    have hb : q.b < 2 ^ n := by omega
    show (⟨(q.b + (if s then 2 ^ n else 0)) % 2 ^ n, q.l + 1 - 1, q.g⟩ : Rw) = q
    have e1 : (q.b + (if s then 2 ^ n else 0)) % 2 ^ n = q.b := by
      cases s
      · simpa using Nat.mod_eq_of_lt hb
      · simp [Nat.mod_eq_of_lt hb]
    rw [e1]; rfl
  rw [List.map_congr_left this]
  simp
/-- the goal of the root row -/
noncomputable def rootG (rs : List Rw) : Value := rs.foldl (fun a q => if q.l = 0 then q.g else a) .none
theorem rootG_snoc (rs : List Rw) (q : Rw) : rootG (rs ++ [q]) = if q.l = 0 then q.g else rootG rs := by
  unfold rootG
  rw [List.foldl_append]
  rfl
theorem foldl_deep (rs : List Rw) (h : ∀ q ∈ rs, 0 < q.l) (a : Value) : rs.foldl (fun a q => if q.l = 0 then q.g else a) a = a := by
  induction rs generalizing a with
  | nil => rfl
  | cons q rs ih =>
    have hq := h q (.head _)
    rw [List.foldl_cons, if_neg (by omega)]
    exact ih (fun x hx => h x (.tail _ hx)) a
theorem rootG_rows {l r : Shp} {g : Value} {n : Nat} (hf : (Shp.node l r g).fit n) : rootG (rowsS (.node l r g) n 0 0) = g := by
  rw [rootG, rowsS, List.foldl_append, foldl_deep]
  · split
    · rename_i h
      exact (none_beq.mp h).symm
    · rfl
  · intro q hq
    cases n with
    | zero =>
      have h' : l = .nil ∧ r = .nil := hf
      rw [h'.1, h'.2] at hq
      cases hq
    | succ n =>
      have h' : l.fit n ∧ r.fit n := hf
      rcases List.mem_append.mp hq with hq | hq
      · have := rowsS_bounds h'.1 _ _ q hq
        omega
      · have := rowsS_bounds h'.2 _ _ q hq
        omega
inductive RowAt (l : List (Addr × Obj)) (rs : List Rw) (i : Nat) (v : Value) : Prop
  | mk (q : Rw) (a : Addr) (t1 t2 : Tok) (n : Nat) (e : rs[i]? = some q) (f : v = .ref a) (g : (a, tupO #[.int (q.b : Int) t1, .int (q.l : Int) t2, q.g] n) ∈ l) : RowAt l rs i v
theorem RowsIn.get {l : List (Addr × Obj)} {vs : List Value} {rs : List Rw} (h : RowsIn l vs rs) : ∀ {i : Nat} {v : Value}, vs[i]? = some v → RowAt l rs i v := by
  induction h with
  | nil => intro i v h; cases h
  | cons hm _ ih =>
    intro i v h
    cases i with
    | zero => cases h; exact ⟨_, _, _, _, _, rfl, rfl, hm⟩
    | succ i =>
      obtain ⟨q, a, t1, t2, n, e, f, g⟩ := ih h
      exact ⟨q, a, t1, t2, n, e, f, g⟩
theorem RowsIn.snoc {l : List (Addr × Obj)} {ys : List Value} {fs : List Rw} {q : Rw} {a : Addr} {t1 t2 : Tok} {n : Nat} (h : RowsIn l ys fs) (hm : (a, tupO #[.int (q.b : Int) t1, .int (q.l : Int) t2, q.g] n) ∈ l) : RowsIn l (ys ++ [.ref a]) (fs ++ [q]) :=
  h.append (.cons hm .nil)
theorem take_snoc {α : Type} {l : List α} {i : Nat} {x : α} (h : l[i]? = some x) : l.take (i + 1) = l.take i ++ [x] := by
  rw [List.take_add_one, h]; rfl
theorem rowsS_len {t : Shp} {n : Nat} (hf : t.fit n) (b d : Nat) : (rowsS t n b d).length < 2 ^ (n + 1) := by
  induction t generalizing n b d with
  | nil => simp [rowsS]; exact Nat.pos_of_ne_zero (by simp)
  | node l r g il ir =>
    rw [rowsS, List.length_append, List.length_append]
    have h1 : (if (g == .none) = true then [] else [(⟨b, d, g⟩ : Rw)]).length ≤ 1 := by split <;> simp
    cases n with
    | zero =>
      have h' : l = .nil ∧ r = .nil := hf
      rw [h'.1, h'.2]
      have e0 : ∀ a b c : Nat, (rowsS .nil a b c).length = 0 := fun _ _ _ => rfl
      rw [e0, e0]
      omega
    | succ n =>
      have h' : l.fit n ∧ r.fit n := hf
      have e : n + 1 - 1 = n := rfl
      rw [e]
      have a1 := il h'.1 b (d + 1)
      have a2 := ir h'.2 (b + 2 ^ n) (d + 1)
      have e2 : 2 ^ (n + 1 + 1) = 2 ^ (n + 1) + 2 ^ (n + 1) := by rw [Nat.pow_succ]; omega
      omega
theorem rowsS_len9 {t : Shp} {n : Nat} (hf : t.fit n) (hn : n ≤ 9) (b d : Nat) : (rowsS t n b d).length ≤ 1024 := by
  have h1 := rowsS_len hf b d
  have h2 : 2 ^ (n + 1) ≤ 2 ^ 10 := Nat.pow_le_pow_right (by omega) (by omega)
  omega
end
section -- Srt
section
variable {prog : Program} {w : World} {A : Around} {E : Value → Shared → Prop} {s : Shared}
theorem list_sort_one {a : Addr} {v : Value} {n : Nat} {P : PySem.Fin → Shared → Prop} (ho : s.heap.get? a = some (seqObj "list" [v].toArray n))
    (h : P (.done (.ret .none)) { s with heap := sortedHeap s.heap a [v] #[v] }) : wpAny (model prog w) A (Builtin.«list.sort» ⟨[.ref a], []⟩) P E s := by
  rw [list_sort_plain]
  have ha : a < s.heap.objs.size := Heap.lt_size ho
  refine wpAny_bind (listItems_at ho rfl ?_)
  refine wpAny_bind (listUpdate_at ho rfl ?_)
  obtain ⟨e1, ho1⟩ : ∃ e1, (s.heap.update a (Obj.mapSeq fun _ => #[])).get? a = some (seqObj "list" #[] e1) := ⟨_, get?_update_seq ho (fun _ => #[])⟩
  refine wpAny_bind (seqEpoch_at ho1 rfl ?_)
  refine wpAny_bind (wpAny_newTuple ?_)
  refine wpAny_bind (wpAny_newList ?_)
  refine wpAny_holding ?_
  have ho6 : (((s.heap.update a (Obj.mapSeq fun _ => #[])).push (seqObj "tuple" [v].toArray 0)).push (seqObj "list" #[] 0)).get? a = some (seqObj "list" #[] e1) := by
    rw [Heap.get?_push_ne _ _ _ (by rw [size_push', Heap.size_update]; exact Nat.ne_of_lt (Nat.lt_succ_of_lt ha)), Heap.get?_push_ne _ _ _ (by rw [Heap.size_update]; exact Nat.ne_of_lt ha)]
    exact ho1
  show wpAny (model prog w) A _ P E { s with heap := ((s.heap.update a (Obj.mapSeq fun _ => #[])).push (seqObj "tuple" [v].toArray 0)).push (seqObj "list" #[] 0) }
  dsimp only
  have h2 : [v].toArray.size < 2 := by simp
  rw [if_pos h2, if_pos h2]
  refine wpAny_bind (wpAny_pure ?_)
  rw [StateT.run_pure]
  refine wpAny_bind (wpAny_pure ?_)
  dsimp only
  refine wpAny_bind (seqEpoch_at ho6 rfl ?_)
  refine wpAny_bind (listUpdate_at ho6 rfl ?_ (hsz2 := by rw [Array.size_map]; show (pairsOf [v]).size ≤ _; rw [pairsOf_size, sizeLine_eq]; simp))
  simp only [bne_self_eq_false, Bool.false_eq_true, if_false]
  have e : ((arrOf (SortSt.mk' general' ([v].toArray.zip [v].toArray) #[] 7 none)).map (·.2)) = #[v] := by
    show (([v].toArray.zip [v].toArray).map (·.2)) = _
    simp
  rw [e]
  exact wpAny_pure h
theorem sorted_one {h₀ : Heap} {L l : Addr} {m : Str → Option Value} {news : List (Addr × Obj)} {v : Value} {Q : Value → Shared → Prop} (F : Fr h₀ L s.heap m) (N : News h₀ L s.heap news) (hl : s.heap.IsList l [v].toArray)
    (h : ∀ D e h', Fr h₀ L h' m → News h₀ L h' ((D, listOf [v].toArray e) :: news) → (∀ q ∈ news, q.1 < D) → Q (.ref D) { s with heap := h' }) : wpAny (model prog w) A (call (.builtin "sorted") [.ref l]) Q E s := by
  refine Calls.call_function_entry kind_sorted plain_sorted entry_sorted (args_sorted1 _) ?_
  unfold Builtin.«sorted»
  refine wpAny_bind (m := checkCount "sorted" 1 1 _) (wpAny_pure ?_)
  refine wpAny_bind (collect_list hl ?_)
  refine wpAny_bind (wpAny_newList ?_)
  have hsz : ((s.heap.push (seqObj "list" #[] 0)).update s.heap.objs.size (Obj.mapSeq (· ++ [v].toArray))).objs.size = s.heap.objs.size + 1 := by
    rw [Heap.size_update, size_push']
  have hoL : (((s.heap.push (seqObj "list" #[] 0)).update s.heap.objs.size (Obj.mapSeq (· ++ [v].toArray))).push (seqObj "list" [v].toArray 0)).get? (s.heap.objs.size + 1) = some (seqObj "list" [v].toArray 0) := by
    rw [← hsz]; exact Heap.get?_push_size _ rfl
  show wpAny _ _ _ _ _ { s with heap := ((s.heap.push (seqObj "list" #[] 0)).update s.heap.objs.size (Obj.mapSeq (· ++ [v].toArray))).push (seqObj "list" [v].toArray 0) }
  rw [hsz]
  refine wpAny_bind (wpAny_holding (wpAny_call_entry slot_list_sort ⟨_, hoL, rfl⟩ entry_list_sort (list_sort_one hoL ⟨_, rfl, ?_⟩) (args_list_sort _)))
  obtain ⟨e, he⟩ := sortedAll_at s.heap [v] #[v]
  exact wpAny_pure ⟨_, rfl, h _ e _ (F.kept fun _ _ => sortedAll_old) (N.kept_cons F (fun _ _ => sortedAll_old) (Nat.le_succ _) he) fun p hp => Nat.lt_succ_of_lt (Heap.lt_size (N p hp).1)⟩
end
/-- the sort's tree, run on an order of n places -/
noncomputable def kRun (n : Nat) (lt : Nat → Nat → Bool) : KasT (Array Nat) → Option (List Nat)
  | .ret a => some a.toList
  | .ask i j k => if i < n && j < n && i != j then kRun n lt (k (lt i j)) else none
theorem kRun_wp {n : Nat} {lt : Nat → Nat → Bool} {cmp : Nat → Nat → (Bool → Shared → Prop) → Shared → Prop} {G : Array Nat → Shared → Prop} {s : Shared} {l : List Nat}
    (hc : ∀ i j C, i < n → j < n → i ≠ j → C (lt i j) s → cmp i j C s) (hG : ∀ p, p.toList = l → G p s) : ∀ t, kRun n lt t = some l → t.kasWp cmp G s
  | .ret a, h => hG a (by unfold kRun at h; exact Option.some.inj h)
  | .ask i j k, h => by
    unfold kRun at h
    split at h
    · rename_i hh
      simp only [Bool.and_eq_true, decide_eq_true_eq, bne_iff_ne, ne_eq] at hh
      exact hc i j _ hh.1.1 hh.1.2 hh.2 (kRun_wp hc hG (k (lt i j)) h)
    · cases h
/-- the order of n - 1 sorted items and one more that belongs before the j-th -/
noncomputable def insPos (n j x : Nat) : Nat := if x = n - 1 then 2 * j else 2 * x + 1
noncomputable def insLt (n j : Nat) (x y : Nat) : Bool := decide (insPos n j x < insPos n j y)
theorem kRun_ins : ∀ n, n < 13 → 2 ≤ n → ∀ j, j < n → kRun n (insLt n j) (kas_sort n) = some (List.range j ++ (n - 1) :: List.range' j (n - 1 - j)) := by decide +kernel
/-- a row before another -/
noncomputable def rlt (a b : Rw) : Bool := decide (a.b < b.b ∨ (a.b = b.b ∧ a.l < b.l))
noncomputable def Srt (rs : List Rw) : Prop := rs.Pairwise fun a b => rlt a b = true
theorem rlt_iff {a b : Rw} : rlt a b = true ↔ (a.b < b.b ∨ (a.b = b.b ∧ a.l < b.l)) := by unfold rlt; simp
theorem rlt_trans {a b c : Rw} (h1 : rlt a b = true) (h2 : rlt b c = true) : rlt a c = true := by
  rw [rlt_iff] at *; omega
theorem rlt_irr {a : Rw} : ¬ rlt a a = true := by rw [rlt_iff]; omega
/-- how many rows stand before r -/
noncomputable def insAt (rs : List Rw) (r : Rw) : Nat := rs.findIdx fun q => !rlt q r
noncomputable def ins (r : Rw) (rs : List Rw) : List Rw := rs.take (insAt rs r) ++ r :: rs.drop (insAt rs r)
theorem insAt_le (rs : List Rw) (r : Rw) : insAt rs r ≤ rs.length := List.findIdx_le_length
theorem insAt_lt {rs : List Rw} {r : Rw} {i : Nat} (hi : i < insAt rs r) : rlt (rs[i]'(Nat.lt_of_lt_of_le hi (insAt_le rs r))) r = true := by
  have := List.not_of_lt_findIdx hi
  simpa using this
theorem insAt_ge {rs : List Rw} {r : Rw} (hs : Srt rs) {i : Nat} (hi : insAt rs r ≤ i) (hl : i < rs.length) : ¬ rlt (rs[i]) r = true := by
  have hj : insAt rs r < rs.length := Nat.lt_of_le_of_lt hi hl
  have h0 : ¬ rlt (rs[insAt rs r]) r = true := by
    have := List.findIdx_getElem (w := hj)
    have e : (!rlt (rs[insAt rs r]) r) = true := this
    simpa using e
  intro h
  rcases Nat.lt_or_eq_of_le hi with hlt | heq
  · exact h0 (rlt_trans (List.pairwise_iff_getElem.mp hs _ _ hj hl hlt) h)
  · have e : rs[i] = rs[insAt rs r] := by congr 1; exact heq.symm
    rw [e] at h
    exact h0 h
theorem ins_mem {r q : Rw} {rs : List Rw} : q ∈ ins r rs ↔ q = r ∨ q ∈ rs := by
  unfold ins
  constructor
  · intro h
    rcases List.mem_append.mp h with h | h
    · exact .inr (List.mem_of_mem_take h)
    · rcases List.mem_cons.mp h with h | h
      · exact .inl h
      · exact .inr (List.mem_of_mem_drop h)
  · rintro (rfl | h)
    · exact List.mem_append_right _ (.head _)
    · rw [← List.take_append_drop (insAt rs r) rs] at h
      rcases List.mem_append.mp h with h | h
      · exact List.mem_append_left _ h
      · exact List.mem_append_right _ (.tail _ h)
theorem ins_srt {r : Rw} {rs : List Rw} (hs : Srt rs) (hd : ∀ q ∈ rs, ¬ (q.b = r.b ∧ q.l = r.l)) : Srt (ins r rs) := by
  unfold ins Srt
  have hsplit := hs
  unfold Srt at hsplit
  rw [← List.take_append_drop (insAt rs r) rs] at hsplit
  obtain ⟨p1, p2, p3⟩ := List.pairwise_append.mp hsplit
  refine List.pairwise_append.mpr ⟨p1, List.pairwise_cons.mpr ⟨?_, p2⟩, ?_⟩
  · intro q hq
    obtain ⟨i, hi, e⟩ := List.getElem_of_mem hq
    rw [List.length_drop] at hi
    have hi' : insAt rs r + i < rs.length := by omega
    have e2 : q = rs[insAt rs r + i] := by rw [← e, List.getElem_drop]
    have h1 := insAt_ge hs (Nat.le_add_right _ i) hi'
    have h2 := hd rs[insAt rs r + i] (List.getElem_mem _)
    rw [e2]
    rw [rlt_iff] at h1 ⊢
    omega
  · intro q hq y hy
    obtain ⟨i, hi, e⟩ := List.getElem_of_mem hq
    rw [List.length_take] at hi
    have hi' : i < insAt rs r := by omega
    have e2 : q = rs[i]'(Nat.lt_of_lt_of_le hi' (insAt_le rs r)) := by rw [← e, List.getElem_take]
    rcases List.mem_cons.mp hy with rfl | hy
    · rw [e2]; exact insAt_lt hi'
    · exact p3 q hq y hy
end
section -- Srt2
theorem key_ne {rs : List Rw} {r : Rw} (hs : Srt rs) (hd : ∀ q ∈ rs, ¬ (q.b = r.b ∧ q.l = r.l)) {i j : Nat} {x y : Rw} (hi : (rs ++ [r])[i]? = some x) (hj : (rs ++ [r])[j]? = some y) (hij : i ≠ j) : ¬ (x.b = y.b ∧ x.l = y.l) := by
  have hi' := (List.getElem?_eq_some_iff.mp hi).1
  have hj' := (List.getElem?_eq_some_iff.mp hj).1
  rw [List.length_append, List.length_singleton] at hi' hj'
  have old : ∀ {i : Nat} {x : Rw}, i < rs.length → (rs ++ [r])[i]? = some x → rs[i]? = some x := fun h e => by rwa [List.getElem?_append_left h] at e
  have new : ∀ {i : Nat} {x : Rw}, i = rs.length → (rs ++ [r])[i]? = some x → x = r := fun h e => by subst h; simpa using e.symm
  have lt : ∀ {i j : Nat} {x y : Rw}, i < j → rs[i]? = some x → rs[j]? = some y → rlt x y = true := fun {i j x y} h e1 e2 => by
    obtain ⟨h1, e1⟩ := List.getElem?_eq_some_iff.mp e1
    obtain ⟨h2, e2⟩ := List.getElem?_eq_some_iff.mp e2
    have := List.pairwise_iff_getElem.mp hs _ _ h1 h2 h
    rwa [e1, e2] at this
  rcases Nat.lt_or_ge i rs.length with h1 | h1
  · have ei := old h1 hi
    rcases Nat.lt_or_ge j rs.length with h2 | h2
    · have ej := old h2 hj
      rcases Nat.lt_or_gt_of_ne hij with h | h
      · have := lt h ei ej
        rw [rlt_iff] at this; omega
      · have := lt h ej ei
        rw [rlt_iff] at this; omega
    · have ej := new (by omega) hj
      subst ej
      exact hd x (List.mem_of_getElem? ei)
  · have ei := new (by omega) hi
    subst ei
    have h2 : j < rs.length := by omega
    have := hd y (List.mem_of_getElem? (old h2 hj))
    omega
theorem ins_lt {rs : List Rw} {r : Rw} (hs : Srt rs) (hd : ∀ q ∈ rs, ¬ (q.b = r.b ∧ q.l = r.l)) {i j : Nat} {x y : Rw} (hi : (rs ++ [r])[i]? = some x) (hj : (rs ++ [r])[j]? = some y) (hij : i ≠ j) : insLt (rs.length + 1) (insAt rs r) i j = rlt x y := by
  have kn := key_ne hs hd hi hj hij
  have hi' := (List.getElem?_eq_some_iff.mp hi).1
  have hj' := (List.getElem?_eq_some_iff.mp hj).1
  rw [List.length_append, List.length_singleton] at hi' hj'
  have old : ∀ {i : Nat} {x : Rw}, i < rs.length → (rs ++ [r])[i]? = some x → rs[i]? = some x := fun h e => by rwa [List.getElem?_append_left h] at e
  have new : ∀ {i : Nat} {x : Rw}, i = rs.length → (rs ++ [r])[i]? = some x → x = r := fun h e => by subst h; simpa using e.symm
  have place : ∀ {i : Nat} {x : Rw}, rs[i]? = some x → (i < insAt rs r ↔ rlt x r = true) := fun {i x} e => by
    obtain ⟨h1, e1⟩ := List.getElem?_eq_some_iff.mp e
    constructor
    · intro h
      have := insAt_lt h
      rwa [e1] at this
    · intro h
      rcases Nat.lt_or_ge i (insAt rs r) with h2 | h2
      · exact h2
      · have := insAt_ge hs h2 h1
        rw [e1] at this
        exact absurd h this
  unfold insLt
  have b : ∀ {p : Prop} [Decidable p] {c : Bool}, (p ↔ c = true) → decide p = c := fun h => by
    cases hc : ‹Bool› <;> simp_all
  refine b ?_
  unfold insPos
  rw [Nat.add_sub_cancel]
  rcases Nat.lt_or_ge i rs.length with h1 | h1
  · have ei := old h1 hi
    have ni : ¬ i = rs.length := by omega
    rcases Nat.lt_or_ge j rs.length with h2 | h2
    · have ej := old h2 hj
      have nj : ¬ j = rs.length := by omega
      rw [if_neg ni, if_neg nj]
      obtain ⟨g1, e1⟩ := List.getElem?_eq_some_iff.mp ei
      obtain ⟨g2, e2⟩ := List.getElem?_eq_some_iff.mp ej
      constructor
      · intro h
        have := List.pairwise_iff_getElem.mp hs _ _ g1 g2 (by omega)
        rwa [e1, e2] at this
      · intro h
        rcases Nat.lt_or_ge i j with h3 | h3
        · omega
        · have := List.pairwise_iff_getElem.mp hs _ _ g2 g1 (by omega)
          rw [e1, e2] at this
          exact absurd (rlt_trans h this) rlt_irr
    · have ej := new (by omega) hj
      have nj : j = rs.length := by omega
      rw [if_neg ni, if_pos nj, ej]
      rw [← place ei]
      omega
  · have ei := new (by omega) hi
    have ni : i = rs.length := by omega
    have h2 : j < rs.length := by omega
    have nj : ¬ j = rs.length := by omega
    have ej := old h2 hj
    rw [if_pos ni, if_neg nj, ei]
    have pl := place ej
    rw [rlt_iff] at pl ⊢
    rw [ei] at kn
    omega
theorem RowsIn.at {l : List (Addr × Obj)} {vs : List Value} {rs : List Rw} (h : RowsIn l vs rs) {i : Nat} (hi : i < vs.length) : ∃ q a t1 t2 n, rs[i]? = some q ∧ vs.getD i Value.none = .ref a ∧ (a, tupO #[.int (q.b : Int) t1, .int (q.l : Int) t2, q.g] n) ∈ l := by
  obtain ⟨q, a, t1, t2, n, e1, e2, e3⟩ := h.get (List.getElem?_eq_getElem hi)
  exact ⟨q, a, t1, t2, n, e1, by rw [List.getD_eq_getElem?_getD, List.getElem?_eq_getElem hi]; exact e2, e3⟩
theorem RowsIn.take {l : List (Addr × Obj)} {vs : List Value} {rs : List Rw} (h : RowsIn l vs rs) : ∀ k, RowsIn l (vs.take k) (rs.take k) := by
  induction h with
  | nil => intro k; rw [List.take_nil, List.take_nil]; exact .nil
  | cons hm _ ih =>
    intro k
    cases k with
    | zero => exact .nil
    | succ k => exact .cons hm (ih k)
theorem RowsIn.drop {l : List (Addr × Obj)} {vs : List Value} {rs : List Rw} (h : RowsIn l vs rs) : ∀ k, RowsIn l (vs.drop k) (rs.drop k) := by
  induction h with
  | nil => intro k; rw [List.drop_nil, List.drop_nil]; exact .nil
  | cons hm ht ih =>
    intro k
    cases k with
    | zero => exact .cons hm ht
    | succ k => exact ih k
theorem map_range_take {α : Type} (l : List α) (d : α) (r : α) : ∀ j, j ≤ l.length → (List.range j).map (fun i => (l ++ [r]).getD i d) = l.take j := fun j hj => by
  apply List.ext_getElem
  · simp; omega
  · intro i h1 h2
    simp at h1 h2
    have : i < l.length := by omega
    simp [List.getD_eq_getElem?_getD, List.getElem?_append_left this, this]
theorem map_range_drop {α : Type} (l : List α) (d : α) (r : α) : ∀ j, j ≤ l.length → (List.range' j (l.length - j)).map (fun i => (l ++ [r]).getD i d) = l.drop j := fun j hj => by
  apply List.ext_getElem
  · simp
  · intro i h1 h2
    simp at h1 h2
    have : j + i < l.length := by omega
    simp [List.getD_eq_getElem?_getD, List.getElem?_append_left this, this]
section
variable {prog : Program} {w : World} {A : Around} {E : Value → Shared → Prop} {s : Shared}
theorem row_lt {h₀ : Heap} {L a a' : Addr} {news : List (Addr × Obj)} {x y : Rw} {t1 t2 u1 u2 : Tok} {n k : Nat} {C : Bool → Shared → Prop} (N : News h₀ L s.heap news)
    (h1 : (a, tupO #[.int (x.b : Int) t1, .int (x.l : Int) t2, x.g] n) ∈ news) (h2 : (a', tupO #[.int (y.b : Int) u1, .int (y.l : Int) u2, y.g] k) ∈ news) (kn : ¬ (x.b = y.b ∧ x.l = y.l)) (h : C (rlt x y) s) :
    wpAny (model prog w) A (keyLt' (tuples' true) (.ref a) (.ref a')) C E s := by
  refine kat_lt (N _ h1).1 rfl (N _ h2).1 rfl ?_
  refine kat_cons (wpAny_eqBool_int ?_)
  refine kat_go (fun e => ?_) (fun e => ?_)
  · refine kat_yes (kat_cons (wpAny_eqBool_int ?_))
    refine kat_go (fun e' => ?_) (fun e' => ?_)
    · exfalso
      have e1 : (x.b : Int) = (y.b : Int) := by simpa using e
      have e2 : (x.l : Int) = (y.l : Int) := by simpa using e'
      exact kn ⟨by omega, by omega⟩
    · refine kat_no (kat_one _ _ (lt_int ?_))
      have e1 : (x.b : Int) = (y.b : Int) := by simpa using e
      have e2 : decide ((x.l : Int) < (y.l : Int)) = rlt x y := by
        unfold rlt
        refine decide_eq_decide.mpr ?_
        omega
      show C (decide ((x.l : Int) < (y.l : Int))) s
      rw [e2]; exact h
  · refine kat_no (oneLt_int ?_)
    have e1 : ¬ (x.b : Int) = (y.b : Int) := by simpa using e
    have e2 : decide ((x.b : Int) < (y.b : Int)) = rlt x y := by
      unfold rlt
      refine decide_eq_decide.mpr ?_
      omega
    rw [e2]; exact h
theorem kat_tups {h₀ h : Heap} {L : Addr} {news : List (Addr × Obj)} (N : News h₀ L h news) : ∀ {vs : List Value} {rs : List Rw}, RowsIn news vs rs → ∃ fs, KatTups h vs fs ∧ fs.length = rs.length ∧ ∀ f ∈ fs, ∃ i t, f = .int i t
  | _, _, .nil => ⟨[], .nil, rfl, fun _ h => nomatch h⟩
  | _, _, .cons hm hr => by
    obtain ⟨fs, h1, h2, h3⟩ := kat_tups N hr
    refine ⟨_ :: fs, .cons (N _ hm).1 rfl rfl rfl h1, by rw [List.length_cons, List.length_cons, h2], fun f hf => ?_⟩
    rcases List.mem_cons.mp hf with rfl | hf
    · exact ⟨_, _, rfl⟩
    · exact h3 f hf
theorem sorted_rows {h₀ : Heap} {L l : Addr} {m : Str → Option Value} {news n₁ : List (Addr × Obj)} {vs : List Value} {v : Value} {rs : List Rw} {r : Rw} {n : Nat} {Q : Value → Shared → Prop} (F : Fr h₀ L s.heap m) (N : News h₀ L s.heap news)
    (ml : (l, listOf (vs ++ [v]).toArray n) ∈ news) (hn₁ : ∀ q ∈ n₁, q ∈ news) (hvs : RowsIn n₁ vs rs) (hv : RowsIn n₁ [v] [r]) (hs : Srt rs) (hd : ∀ q ∈ rs, ¬ (q.b = r.b ∧ q.l = r.l)) (hlen : vs.length ≤ 11)
    (h : ∀ D e h' ws, Fr h₀ L h' m → News h₀ L h' ((D, listOf ws.toArray e) :: news) → (∀ q ∈ news, q.1 < D) → RowsIn n₁ ws (ins r rs) → Q (.ref D) { s with heap := h' }) : wpAny (model prog w) A (call (.builtin "sorted") [.ref l]) Q E s := by
  have hl : s.heap.IsList l (vs ++ [v]).toArray := ⟨_, (N _ ml).1, rfl, n, rfl⟩
  have hlr := hvs.length
  rcases Nat.eq_zero_or_pos vs.length with h0 | h0
  · have e1 : vs = [] := List.length_eq_zero_iff.mp h0
    have e2 : rs = [] := List.length_eq_zero_iff.mp (by omega)
    subst e1 e2
    refine sorted_one F N hl fun D e h' F' N' lt => h D e h' [v] F' N' lt ?_
    exact hv
  · have hall : RowsIn news (vs ++ [v]) (rs ++ [r]) := (hvs.append hv).mono hn₁
    refine kat_sorted F N hl (by rw [List.length_append, List.length_singleton]; omega) (by rw [List.length_append, List.length_singleton]; omega) fun D e1 h' F' N' lt => ?_
    have Nn : News h₀ L h' news := news_sub N' fun q hq => .tail _ hq
    obtain ⟨fs, k1, k2, k3⟩ := kat_tups Nn hall
    refine kat_kind (T := .type "int") k1 (by rw [k2, List.length_append, List.length_singleton]; omega) (fun f hf => by obtain ⟨i, t, rfl⟩ := k3 f hf; exact Looks.of_pure rfl) (by rfl) ?_
    have ek : tuples' (Value.type "int" != Value.type "tuple") = tuples' true := by rfl
    rw [ek]
    have hn : (vs ++ [v]).length = rs.length + 1 := by rw [List.length_append, List.length_singleton]; omega
    have hj : insAt rs r < rs.length + 1 := Nat.lt_succ_of_le (insAt_le rs r)
    have run := kRun_ins (rs.length + 1) (by omega) (by omega) _ hj
    rw [hn]
    refine kRun_wp (n := rs.length + 1) (lt := insLt (rs.length + 1) (insAt rs r)) (fun i j C hi hj hij hC => ?_) (fun p hp => ?_) _ run
    · obtain ⟨x, a, t1, t2, n1, ex, ea, hx⟩ := hall.at (by rw [hn]; exact hi)
      obtain ⟨y, a', u1, u2, n2, ey, ea', hy⟩ := hall.at (by rw [hn]; exact hj)
      unfold kas_ask
      rw [ea, ea']
      refine row_lt Nn hx hy (key_ne hs hd ex ey hij) ?_
      rw [← ins_lt hs hd ex ey hij]; exact hC
    · refine KasFin.intro F' N' (.head fun q hq => Nat.ne_of_lt (lt q hq)) fun h2 c F2 N2 => h D c h2 _ F2 N2 lt ?_
      rw [hp, List.map_append, List.map_cons]
      rw [Nat.add_sub_cancel]
      rw [← hlr, map_range_take vs _ v _ (hlr ▸ insAt_le rs r), map_range_drop vs _ v _ (hlr ▸ insAt_le rs r)]
      have ev : (vs ++ [v]).getD vs.length Value.none = v := by simp
      rw [ev]
      unfold ins
      cases hv with
      | cons hm hn => exact (hvs.take _).append (.cons hm (hvs.drop _))
end
end
section -- Q2
open Classical in
/-- the data of a goal -/
noncomputable def dg (l : List (Addr × Obj)) (v : Value) : Dat := if h : GoalIn l v then h.choose else .none
theorem dg_in {l : List (Addr × Obj)} {v : Value} (h : GoalIn l v) : DatIn l v (dg l v) ∧ kqdOk 3 (dg l v) = true := by
  unfold dg
  rw [dif_pos h]
  exact ⟨h.choose_spec.1, h.choose_spec.2.1⟩
noncomputable def rdat (l : List (Addr × Obj)) (q : Rw) : Dat := .tuple [.int q.b, .int q.l, dg l q.g]
theorem Rows.dats {l : List (Addr × Obj)} : ∀ {vs : List Value} {rs : List Rw}, Rows l vs rs → DatAll l vs (rs.map (rdat l)) ∧ ∀ d ∈ rs.map (rdat l), kqdOk 8 d = true
  | _, _, ⟨.nil, _⟩ => ⟨.nil, fun _ h => nomatch h⟩
  | _, _, ⟨.cons (r := r) (t1 := t1) (t2 := t2) m1 h1, hg⟩ => by
    obtain ⟨i1, i2⟩ := Rows.dats ⟨h1, fun r hr => hg r (.tail _ hr)⟩
    obtain ⟨g1, g2⟩ := dg_in (hg _ (.head _))
    refine ⟨.cons (.tuple (vs := [.int (r.b : Int) t1, .int (r.l : Int) t2, r.g]) m1 (.cons (.int _ _) (.cons (.int _ _) (.cons g1 .nil)))) i1, fun d hd => ?_⟩
    rcases List.mem_cons.mp hd with rfl | hd
    · have := kqdOk_mono g2 (k := 7) (by omega)
      simp [rdat, kqdOk, this]
    · exact i2 d hd
section
variable {prog : Program} {w : World} {A : Around} {E : Value → Shared → Prop} {s : Shared} {h₀ : Heap} {L : Addr} {news n₁ : List (Addr × Obj)} {Q : Value → Shared → Prop}
open Classical in
theorem notin_rows {x a : Addr} {ys : List Value} {th : List Rw} {n : Nat} {q : Rw} {c : Bool} (N : News h₀ L s.heap news) (mx : (x, listOf ys.toArray n) ∈ news) (h1 : Rows n₁ ys th) (hq : Rows n₁ [.ref a] [q]) (hs : ∀ p ∈ n₁, p ∈ news) (hu : A.units + 64 < cLine)
    (hyes : c = true → q ∈ th) (hno : c = false → ∀ y ∈ th, ¬ (y.b = q.b ∧ y.l = q.l)) (h : Q (.bool (!c)) s) : wpAny (model prog w) A (compareOp .NotIn (.ref a) (.ref x)) Q E s := by
  obtain ⟨d1, k1⟩ := h1.dats
  obtain ⟨d2, k2⟩ := hq.dats
  cases d2 with
  | cons d2 _ =>
    refine kqd_notIn N mx rfl rfl d1 hs d2 hs k1 (k2 _ (.head _)) hu ?_
    have e : decide (rdat n₁ q ∈ th.map (rdat n₁)) = c := by
      cases c with
      | true => exact decide_eq_true (List.mem_map_of_mem (hyes rfl))
      | false =>
        refine decide_eq_false fun hm => ?_
        obtain ⟨y, hy, e⟩ := List.mem_map.mp hm
        unfold rdat at e
        injection e with e
        injection e with e1 e
        injection e with e2 e
        injection e1 with e1
        injection e2 with e2
        exact hno rfl y hy ⟨by omega, by omega⟩
    rw [e]
    exact h
theorem add_rows {l b : Addr} {vs ws : List Value} {n k : Nat} {m : Str → Option Value} (F : Fr h₀ L s.heap m) (N : News h₀ L s.heap news) (hl : (l, listOf vs.toArray n) ∈ news) (hb : (b, listOf ws.toArray k) ∈ news) (hz : vs.length + ws.length ≤ 100)
    (h : ∀ D h', Fr h₀ L h' m → News h₀ L h' ((D, listOf (vs ++ ws).toArray 0) :: news) → (∀ q ∈ news, q.1 < D) → Q (.ref D) { s with heap := h' }) : wpAny (model prog w) A (binaryOp .Add (.ref l) (.ref b)) Q E s :=
  kmk_add_lit F N ⟨_, (N _ hl).1, rfl, n, rfl⟩ ⟨_, (N _ hb).1, rfl, k, rfl⟩ rfl (fun D h' F' N' lt => h D h' F' N' lt) (by rw [sizeLine_eq]; show vs.length + ws.length ≤ _; omega)
end
noncomputable def lowOf (k B n : Nat) : Nat := B - B % 2 ^ (k - n)
noncomputable def keyAt (k B n : Nat) (q : Rw) : Bool := decide (q.b = lowOf k B n) && decide (q.l = n)
/-- the rows after a put or a drop -/
noncomputable def newRows (k B n : Nat) (isPut : Bool) (gv : Value) (rs : List Rw) : List Rw := if isPut then ins ⟨lowOf k B n, n, gv⟩ (rs.filter fun q => !keyAt k B n q) else rs.filter fun q => !keyAt k B n q
noncomputable def headG : List Rw → Value
  | [] => .none
  | q :: _ => q.g
/-- what a put or a drop tells -/
noncomputable def dueOf (k B n : Nat) (isPut : Bool) (rs : List Rw) : Value := if isPut then headG (rs.filter (keyAt k B n)) else .bool (!(rs.filter (keyAt k B n)).isEmpty)
theorem all_cons {p : Addr × Obj → Prop} {x : Addr × Obj} {l : List (Addr × Obj)} (h : p x) (hl : ∀ q ∈ l, p q) : ∀ q ∈ x :: l, p q := List.forall_mem_cons.mpr ⟨h, hl⟩
end
section -- Lw
/-- the base of a road -/
noncomputable def pb : Nat → List Bool → Nat
  | _, [] => 0
  | n, b :: p => (if b then 2 ^ (n - 1) else 0) + pb (n - 1) p
theorem pow_pos2 (n : Nat) : 0 < 2 ^ n := Nat.pos_of_ne_zero (by simp)
theorem pow_succ2 (n : Nat) : 2 ^ (n + 1) = 2 ^ n + 2 ^ n := by rw [Nat.pow_succ]; omega
theorem pb_room : ∀ (p : List Bool) (n : Nat), p.length ≤ n → pb n p + 2 ^ (n - p.length) ≤ 2 ^ n
  | [], n, _ => by simp [pb]
  | b :: p, 0, h => by simp at h
  | b :: p, n + 1, h => by
    have ih := pb_room p n (by simpa using h)
    have e : n + 1 - (b :: p).length = n - p.length := by simp
    have e2 : pb (n + 1) (b :: p) = (if b then 2 ^ n else 0) + pb n p := rfl
    have := pow_pos2 n
    rw [e, e2, pow_succ2]
    cases b <;> simp <;> omega
theorem pb_lt {p : List Bool} {n : Nat} (h : p.length ≤ n) : pb n p < 2 ^ n := by
  have := pb_room p n h
  have := pow_pos2 (n - p.length)
  omega
theorem pb_inj : ∀ (p q : List Bool) (n : Nat), p.length = q.length → p.length ≤ n → pb n p = pb n q → p = q
  | [], [], _, _, _, _ => rfl
  | [], _ :: _, _, h, _, _ => by simp at h
  | _ :: _, [], _, h, _, _ => by simp at h
  | b :: p, c :: q, 0, _, h, _ => by simp at h
  | b :: p, c :: q, n + 1, h, hl, e => by
    have h1 : p.length = q.length := by simpa using h
    have h2 : p.length ≤ n := by simpa using hl
    have e1 : (if b then 2 ^ n else 0) + pb n p = (if c then 2 ^ n else 0) + pb n q := e
    have l1 := pb_lt h2
    have l2 := pb_lt (h1 ▸ h2 : q.length ≤ n)
    have hbc : b = c := by
      cases b <;> cases c <;> simp at e1 ⊢ <;> omega
    subst hbc
    rw [pb_inj p q n h1 h2 (by omega)]
theorem pb_mod : ∀ (p : List Bool) (n : Nat), p.length ≤ n → pb n p % 2 ^ (n - p.length) = 0
  | [], n, _ => by simp [pb]
  | b :: p, 0, h => by simp at h
  | b :: p, n + 1, h => by
    have h2 : p.length ≤ n := by simpa using h
    have ih := pb_mod p n h2
    have e : n + 1 - (b :: p).length = n - p.length := by simp
    have e2 : pb (n + 1) (b :: p) = (if b then 2 ^ n else 0) + pb n p := rfl
    rw [e, e2]
    have d : 2 ^ (n - p.length) ∣ 2 ^ n := Nat.pow_dvd_pow 2 (by omega)
    have d2 : 2 ^ (n - p.length) ∣ (if b then 2 ^ n else 0) := by cases b <;> simp [d]
    have d3 := Nat.dvd_of_mod_eq_zero ih
    exact Nat.mod_eq_zero_of_dvd (Nat.dvd_add d2 d3)
theorem pb_snoc : ∀ (p : List Bool) (n : Nat) (b : Bool), pb n (p ++ [b]) = pb n p + (if b then 2 ^ (n - 1 - p.length) else 0)
  | [], n, b => by simp [pb]
  | c :: p, n, b => by
    show (if c then 2 ^ (n - 1) else 0) + pb (n - 1) (p ++ [b]) = (if c then 2 ^ (n - 1) else 0) + pb (n - 1) p + _
    rw [pb_snoc p (n - 1) b]
    have e : n - 1 - 1 - p.length = n - 1 - (c :: p).length := by simp; omega
    rw [e, Nat.add_assoc]
theorem pb_pth {k B : Nat} (hB : B < 2 ^ k) : ∀ n, n ≤ k → pb k (pth k n B) = lowOf k B n
  | 0, _ => by
    unfold lowOf pth
    rw [Nat.sub_zero, Nat.mod_eq_of_lt hB]
    simp [pb]
  | n + 1, h => by
    have ih := pb_pth hB n (by omega)
    have e : pth k (n + 1) B = pth k n B ++ [decide (B / 2 ^ (k - 1 - n) % 2 = 1)] := by
      unfold pth
      rw [List.range_succ, List.map_append]; rfl
    rw [e, pb_snoc, ih, pth_len]
    unfold lowOf
    have e1 : k - (n + 1) = k - 1 - n := by omega
    have e2 : k - n = k - 1 - n + 1 := by omega
    rw [e1, e2, Nat.mod_pow_succ]
    generalize hm : 2 ^ (k - 1 - n) = M
    have hle : B % M + M * (B / M % 2) ≤ B := by
      have h3 := Nat.mod_pow_succ (x := B) (b := 2) (k := k - 1 - n)
      rw [hm] at h3
      rw [← h3]
      exact Nat.mod_le _ _
    rcases Nat.mod_two_eq_zero_or_one (B / M) with z | z
    · rw [z] at hle ⊢; simp
    · rw [z] at hle ⊢; simp; omega
theorem pth_pb {k : Nat} {p : List Bool} (h : p.length ≤ k) : pth k p.length (pb k p) = p := by
  refine pb_inj _ _ k (pth_len _ _ _) (by rw [pth_len]; exact h) ?_
  rw [pb_pth (pb_lt h) _ h]
  unfold lowOf
  rw [pb_mod p k h, Nat.sub_zero]
theorem mem_rows : ∀ (t : Shp) (n b d : Nat), t.fit n → ∀ q : Rw, q ∈ rowsS t n b d ↔ ∃ p : List Bool, p.length ≤ n ∧ q.l = d + p.length ∧ q.b = b + pb n p ∧ Shp.get p t = q.g ∧ q.g ≠ .none := by
  intro t
  induction t with
  | nil =>
    intro n b d _ q
    constructor
    · intro h; cases h
    · rintro ⟨p, _, _, _, h, hn⟩
      rw [get_nil] at h
      exact absurd h.symm hn
  | node l r g il ir =>
    intro n b d hf q
    rw [rowsS, List.mem_append, List.mem_append]
    constructor
    · rintro (h | h | h)
      · split at h
        · cases h
        · rename_i hg
          rw [List.mem_singleton.mp h]
          exact ⟨[], Nat.zero_le _, rfl, rfl, rfl, fun e => hg (none_beq.mpr e)⟩
      · cases n with
        | zero =>
          have h' : l = .nil ∧ r = .nil := hf
          rw [h'.1] at h
          cases h
        | succ n =>
          have h' : l.fit n ∧ r.fit n := hf
          obtain ⟨p, h1, h2, h3, h4, h5⟩ := (il n b (d + 1) h'.1 q).mp h
          refine ⟨false :: p, by simpa using h1, by rw [h2, List.length_cons]; omega, ?_, h4, h5⟩
          rw [h3]; simp [pb]
      · cases n with
        | zero =>
          have h' : l = .nil ∧ r = .nil := hf
          rw [h'.2] at h
          cases h
        | succ n =>
          have h' : l.fit n ∧ r.fit n := hf
          obtain ⟨p, h1, h2, h3, h4, h5⟩ := (ir n (b + 2 ^ n) (d + 1) h'.2 q).mp h
          refine ⟨true :: p, by simpa using h1, by rw [h2, List.length_cons]; omega, ?_, h4, h5⟩
          rw [h3]; simp [pb]; omega
    · rintro ⟨p, h1, h2, h3, h4, h5⟩
      cases p with
      | nil =>
        left
        have e : g = q.g := h4
        have hg : ¬ (g == Value.none) = true := fun x => h5 (by rw [← e]; exact none_beq.mp x)
        rw [if_neg hg, List.mem_singleton]
        cases q
        simp only [pb, List.length_nil, Nat.add_zero] at h2 h3 e ⊢
        rw [h2, h3, e]
      | cons c p =>
        right
        cases n with
        | zero => simp at h1
        | succ n =>
          have h' : l.fit n ∧ r.fit n := hf
          have h1' : p.length ≤ n := by simpa using h1
          have e3 : q.b = b + ((if c then 2 ^ n else 0) + pb n p) := h3
          have h2' : q.l = d + 1 + p.length := by rw [h2, List.length_cons]; omega
          cases c with
          | false =>
            left
            exact (il n b (d + 1) h'.1 q).mpr ⟨p, h1', h2', by rw [e3]; simp, h4, h5⟩
          | true =>
            right
            exact (ir n (b + 2 ^ n) (d + 1) h'.2 q).mpr ⟨p, h1', h2', by rw [e3]; simp; omega, h4, h5⟩
theorem rows_srt : ∀ (t : Shp) (n b d : Nat), t.fit n → Srt (rowsS t n b d) := by
  intro t
  induction t with
  | nil => intro n b d _; exact List.Pairwise.nil
  | node l r g il ir =>
    intro n b d hf
    rw [rowsS]
    cases n with
    | zero =>
      have h' : l = .nil ∧ r = .nil := hf
      rw [h'.1, h'.2]
      show Srt ((if (g == Value.none) = true then [] else [⟨b, d, g⟩]) ++ ([] ++ []))
      rw [List.append_nil, List.append_nil]
      split
      · exact List.Pairwise.nil
      · exact List.pairwise_singleton _ _
    | succ n =>
      have h' : l.fit n ∧ r.fit n := hf
      have bl := rowsS_bounds h'.1 b (d + 1)
      have br := rowsS_bounds h'.2 (b + 2 ^ n) (d + 1)
      have e : n + 1 - 1 = n := rfl
      rw [e]
      refine List.pairwise_append.mpr ⟨?_, List.pairwise_append.mpr ⟨il n b (d + 1) h'.1, ir n _ (d + 1) h'.2, ?_⟩, ?_⟩
      · split
        · exact List.Pairwise.nil
        · exact List.pairwise_singleton _ _
      · intro x hx y hy
        have h1 := bl x hx
        have h2 := br y hy
        rw [rlt_iff]; omega
      · intro x hx y hy
        split at hx
        · cases hx
        · rw [List.mem_singleton.mp hx]
          rw [rlt_iff]
          rcases List.mem_append.mp hy with hy | hy
          · have := bl y hy
            show b < y.b ∨ b = y.b ∧ d < y.l
            omega
          · have := br y hy
            have := pow_pos2 n
            show b < y.b ∨ b = y.b ∧ d < y.l
            omega
theorem srt_ext : ∀ {a b : List Rw}, Srt a → Srt b → (∀ q, q ∈ a ↔ q ∈ b) → a = b
  | [], [], _, _, _ => rfl
  | [], y :: b, _, _, h => nomatch (h y).mpr (.head _)
  | x :: a, [], _, _, h => nomatch (h x).mp (.head _)
  | x :: a, y :: b, ha, hb, h => by
    obtain ⟨ha1, ha2⟩ := List.pairwise_cons.mp ha
    obtain ⟨hb1, hb2⟩ := List.pairwise_cons.mp hb
    have hxy : x = y := by
      rcases List.mem_cons.mp ((h x).mp (.head _)) with e | h1
      · exact e
      · rcases List.mem_cons.mp ((h y).mpr (.head _)) with e | h2
        · exact e.symm
        · exact absurd (rlt_trans (ha1 y h2) (hb1 x h1)) rlt_irr
    subst hxy
    rw [srt_ext ha2 hb2 fun q => ?_]
    constructor
    · intro hq
      rcases List.mem_cons.mp ((h q).mp (.tail _ hq)) with e | h1
      · subst e; exact absurd (ha1 _ hq) rlt_irr
      · exact h1
    · intro hq
      rcases List.mem_cons.mp ((h q).mpr (.tail _ hq)) with e | h1
      · subst e; exact absurd (hb1 _ hq) rlt_irr
      · exact h1
theorem get_put : ∀ (p' p : List Bool) (g : Value) (t : Shp), Shp.get p (Shp.put p' g t) = if p = p' then g else Shp.get p t
  | [], p, g, .nil => by
    cases p with
    | nil => rfl
    | cons c p => cases c <;> simp [Shp.put, Shp.get, Shp.kid, get_nil]
  | [], p, g, .node l r h => by
    cases p with
    | nil => rfl
    | cons c p => simp [Shp.put, Shp.get, Shp.kid]
  | b :: p', p, g, .nil => by
    cases p with
    | nil => cases b <;> simp [Shp.put, Shp.get, Shp.gl]
    | cons c p =>
      have ih := get_put p' p g .nil
      cases b <;> cases c <;> simp [Shp.put, Shp.get, Shp.kid, ih, get_nil]
  | b :: p', p, g, .node l r h => by
    cases p with
    | nil => cases b <;> simp [Shp.put, Shp.get, Shp.gl]
    | cons c p =>
      have ihl := get_put p' p g l
      have ihr := get_put p' p g r
      cases b <;> cases c <;> simp [Shp.put, Shp.get, Shp.kid, ihl, ihr]
theorem bare_get : ∀ (t : Shp) (p : List Bool), t.bare = true → Shp.get p t = .none
  | .nil, p, _ => get_nil p
  | .node .nil .nil g, p, h => by
    have e : g = .none := none_beq.mp h
    subst e
    exact get_fresh p
  | .node (.node _ _ _) .nil g, p, h => by cases h
  | .node .nil (.node _ _ _) g, p, h => by cases h
  | .node (.node _ _ _) (.node _ _ _) g, p, h => by cases h
theorem get_cut (p : List Bool) (t : Shp) : Shp.get p t.cut = Shp.get p t := by
  unfold Shp.cut
  split
  · rename_i h
    rw [bare_get t p h, get_nil]
  · rfl
theorem get_drop : ∀ (p' p : List Bool) (t : Shp), Shp.get p (Shp.drop p' t) = if p = p' then .none else Shp.get p t
  | p', p, .nil => by
    have e : Shp.drop p' .nil = .nil := by cases p' <;> rfl
    rw [e, get_nil]; split <;> rfl
  | [], p, .node l r h => by
    cases p with
    | nil => rfl
    | cons c p => simp [Shp.drop, Shp.get, Shp.kid]
  | b :: p', p, .node l r h => by
    cases p with
    | nil => cases b <;> simp [Shp.drop, Shp.get, Shp.gl]
    | cons c p =>
      have ihl := get_drop p' p l
      have ihr := get_drop p' p r
      cases b <;> cases c <;> simp [Shp.drop, Shp.get, Shp.kid, ihl, ihr, get_cut]
theorem fit_nil (n : Nat) : Shp.nil.fit n := by cases n <;> trivial
theorem fit_put : ∀ (p : List Bool) (n : Nat) (g : Value) (t : Shp), p.length ≤ n → t.fit n → (Shp.put p g t).fit n
  | [], n, g, .nil, _, _ => by
    cases n with
    | zero => exact ⟨rfl, rfl⟩
    | succ n => exact ⟨fit_nil n, fit_nil n⟩
  | [], n, g, .node l r h, _, hf => by
    cases n with
    | zero => exact hf
    | succ n => exact hf
  | b :: p, 0, g, t, h, _ => by simp at h
  | b :: p, n + 1, g, .nil, h, _ => by
    have ih := fit_put p n g .nil (by simpa using h) (fit_nil n)
    cases b
    · exact ⟨ih, fit_nil n⟩
    · exact ⟨fit_nil n, ih⟩
  | b :: p, n + 1, g, .node l r x, h, hf => by
    have h' : l.fit n ∧ r.fit n := hf
    cases b
    · exact ⟨fit_put p n g l (by simpa using h) h'.1, h'.2⟩
    · exact ⟨h'.1, fit_put p n g r (by simpa using h) h'.2⟩
theorem fit_cut {n : Nat} {t : Shp} (h : t.fit n) : t.cut.fit n := by
  unfold Shp.cut
  split
  · exact fit_nil n
  · exact h
theorem drop_nil (p : List Bool) : Shp.drop p .nil = .nil := by cases p <;> rfl
theorem cut_nil : Shp.nil.cut = .nil := rfl
theorem fit_drop : ∀ (p : List Bool) (n : Nat) (t : Shp), t.fit n → (Shp.drop p t).fit n
  | p, n, .nil, _ => by rw [drop_nil]; exact fit_nil n
  | [], n, .node l r h, hf => by
    cases n with
    | zero => exact hf
    | succ n => exact hf
  | b :: p, 0, .node l r x, hf => by
    have h' : l = .nil ∧ r = .nil := hf
    rw [h'.1, h'.2]
    cases b
    · simp only [Shp.drop, Bool.false_eq_true, if_false, drop_nil, cut_nil]; exact ⟨rfl, rfl⟩
    · simp only [Shp.drop, if_true, drop_nil, cut_nil]; exact ⟨rfl, rfl⟩
  | b :: p, n + 1, .node l r x, hf => by
    have h' : l.fit n ∧ r.fit n := hf
    cases b
    · exact ⟨fit_cut (fit_drop p n l h'.1), h'.2⟩
    · exact ⟨h'.1, fit_cut (fit_drop p n r h'.2)⟩
theorem put_ne (p : List Bool) (g : Value) (t : Shp) : Shp.put p g t ≠ .nil := by
  cases p with
  | nil => cases t <;> simp [Shp.put]
  | cons b p => cases t <;> cases b <;> simp [Shp.put]
theorem tk_put : ∀ (p : List Bool) (g : Value) (t : Shp), g ≠ .none → t.tk → (Shp.put p g t).tk
  | [], g, .nil, hg, _ => ⟨.inl hg, trivial, trivial⟩
  | [], g, .node l r h, hg, ht => ⟨.inl hg, ht.2.1, ht.2.2⟩
  | b :: p, g, .nil, hg, _ => by
    have ih := tk_put p g .nil hg trivial
    cases b
    · exact ⟨.inr (.inl (put_ne p g .nil)), ih, trivial⟩
    · exact ⟨.inr (.inr (put_ne p g .nil)), trivial, ih⟩
  | b :: p, g, .node l r x, hg, ht => by
    cases b
    · exact ⟨.inr (.inl (put_ne p g l)), tk_put p g l hg ht.2.1, ht.2.2⟩
    · exact ⟨.inr (.inr (put_ne p g r)), ht.2.1, tk_put p g r hg ht.2.2⟩
theorem tight_put {p : List Bool} {g : Value} {l r : Shp} {x : Value} (hg : g ≠ .none) (ht : (Shp.node l r x).tight) : (Shp.put p g (.node l r x)).tight := by
  cases p with
  | nil => exact ht
  | cons b p =>
    cases b
    · exact ⟨tk_put p g l hg ht.1, ht.2⟩
    · exact ⟨ht.1, tk_put p g r hg ht.2⟩
theorem cut_tk : ∀ {t : Shp}, t.tight → t.cut.tk
  | .nil, _ => trivial
  | .node l r g, h => by
    unfold Shp.cut
    split
    · trivial
    · rename_i hb
      refine ⟨?_, h.1, h.2⟩
      cases l with
      | node _ _ _ => exact .inr (.inl (by simp))
      | nil =>
        cases r with
        | node _ _ _ => exact .inr (.inr (by simp))
        | nil => exact .inl fun e => hb (none_beq.mpr e)
theorem tk_tight {t : Shp} (h : t.tk) : t.tight := by
  cases t with
  | nil => trivial
  | node l r g => exact ⟨h.2.1, h.2.2⟩
theorem tight_drop : ∀ (p : List Bool) {t : Shp}, t.tight → (Shp.drop p t).tight
  | p, .nil, _ => by rw [drop_nil]; trivial
  | [], .node l r h, ht => ht
  | b :: p, .node l r h, ht => by
    cases b
    · exact ⟨cut_tk (tight_drop p (tk_tight ht.1)), ht.2⟩
    · exact ⟨ht.1, cut_tk (tight_drop p (tk_tight ht.2))⟩
/-- a trie after a drop that may find nothing -/
noncomputable def Shp.dropped (p : List Bool) (t : Shp) : Shp := if Shp.get p t == .none then t else Shp.drop p t
theorem put_node (p : List Bool) (g : Value) (l r : Shp) (x : Value) : ∃ l' r' x', Shp.put p g (.node l r x) = .node l' r' x' := by
  cases p with
  | nil => exact ⟨_, _, _, rfl⟩
  | cons b p => cases b <;> exact ⟨_, _, _, rfl⟩
theorem dropped_node (p : List Bool) (l r : Shp) (x : Value) : ∃ l' r' x', Shp.dropped p (.node l r x) = .node l' r' x' := by
  unfold Shp.dropped
  split
  · exact ⟨_, _, _, rfl⟩
  · cases p with
    | nil => exact ⟨_, _, _, rfl⟩
    | cons b p => cases b <;> exact ⟨_, _, _, rfl⟩
section
variable {t : Shp} {k B n : Nat} {gv : Value}
theorem key_mem (hB : B < 2 ^ k) (hn : n ≤ k) (hf : t.fit k) {q : Rw} (hq : q ∈ rowsS t k 0 0) (hk : keyAt k B n q = true) : q.g = Shp.get (pth k n B) t ∧ q.g ≠ .none := by
  obtain ⟨p, h1, h2, h3, h4, h5⟩ := (mem_rows t k 0 0 hf q).mp hq
  unfold keyAt at hk
  simp only [Bool.and_eq_true, decide_eq_true_eq] at hk
  have e : p = pth k n B := pb_inj _ _ k (by rw [pth_len]; omega) h1 (by rw [pb_pth hB n hn]; omega)
  rw [← e]
  exact ⟨h4.symm, h5⟩
theorem key_at (hB : B < 2 ^ k) (hn : n ≤ k) (hf : t.fit k) (hg : Shp.get (pth k n B) t ≠ .none) : (⟨lowOf k B n, n, Shp.get (pth k n B) t⟩ : Rw) ∈ rowsS t k 0 0 :=
  (mem_rows t k 0 0 hf _).mpr ⟨pth k n B, by rw [pth_len]; exact hn, by rw [pth_len]; simp, by rw [pb_pth hB n hn]; simp, rfl, hg⟩
theorem head_due (hB : B < 2 ^ k) (hn : n ≤ k) (hf : t.fit k) : headG ((rowsS t k 0 0).filter (keyAt k B n)) = Shp.get (pth k n B) t ∧ (!((rowsS t k 0 0).filter (keyAt k B n)).isEmpty) = (!(Shp.get (pth k n B) t == .none)) := by
  cases hfl : (rowsS t k 0 0).filter (keyAt k B n) with
  | nil =>
    have hg : Shp.get (pth k n B) t = .none := by
      cases hq : (Shp.get (pth k n B) t == .none) with
      | true => exact none_beq.mp hq
      | false =>
        have hm := key_at hB hn hf (none_beq_f.mp hq)
        have : (⟨lowOf k B n, n, Shp.get (pth k n B) t⟩ : Rw) ∈ (rowsS t k 0 0).filter (keyAt k B n) := List.mem_filter.mpr ⟨hm, by simp [keyAt]⟩
        rw [hfl] at this
        cases this
    rw [hg]
    exact ⟨rfl, rfl⟩
  | cons q rest =>
    have hq : q ∈ (rowsS t k 0 0).filter (keyAt k B n) := by rw [hfl]; exact .head _
    obtain ⟨h1, h2⟩ := key_mem hB hn hf (List.mem_filter.mp hq).1 (List.mem_filter.mp hq).2
    refine ⟨h1, ?_⟩
    rw [← h1, none_beq_f.mpr h2]; rfl
theorem due_put (hB : B < 2 ^ k) (hn : n ≤ k) (hf : t.fit k) : dueOf k B n true (rowsS t k 0 0) = Shp.get (pth k n B) t := by
  unfold dueOf
  rw [if_pos rfl]
  exact (head_due hB hn hf).1
theorem due_drop (hB : B < 2 ^ k) (hn : n ≤ k) (hf : t.fit k) : dueOf k B n false (rowsS t k 0 0) = .bool (!(Shp.get (pth k n B) t == .none)) := by
  unfold dueOf
  rw [if_neg (by simp)]
  exact congrArg Value.bool (head_due hB hn hf).2
theorem filt_mem {rs : List Rw} {q : Rw} : q ∈ rs.filter (fun q => !keyAt k B n q) ↔ q ∈ rs ∧ ¬ (q.b = lowOf k B n ∧ q.l = n) := by
  rw [List.mem_filter]
  unfold keyAt
  constructor
  · rintro ⟨h1, h2⟩
    refine ⟨h1, fun e => ?_⟩
    simp [e.1, e.2] at h2
  · rintro ⟨h1, h2⟩
    refine ⟨h1, ?_⟩
    by_cases e1 : q.b = lowOf k B n
    · by_cases e2 : q.l = n
      · exact absurd ⟨e1, e2⟩ h2
      · simp [e2]
    · simp [e1]
theorem rows_put (hB : B < 2 ^ k) (hn : n ≤ k) (hf : t.fit k) (hg : gv ≠ .none) : rowsS (Shp.put (pth k n B) gv t) k 0 0 = newRows k B n true gv (rowsS t k 0 0) := by
  have hP : (pth k n B).length ≤ k := by rw [pth_len]; exact hn
  unfold newRows
  rw [if_pos rfl]
  refine srt_ext (rows_srt _ k 0 0 (fit_put _ _ _ _ hP hf)) (ins_srt ((rows_srt t k 0 0 hf).filter _) fun q hq => (filt_mem.mp hq).2) fun q => ?_
  rw [ins_mem, filt_mem, mem_rows _ k 0 0 (fit_put _ _ _ _ hP hf), mem_rows t k 0 0 hf]
  constructor
  · rintro ⟨p, h1, h2, h3, h4, h5⟩
    rw [get_put] at h4
    by_cases e : p = pth k n B
    · left
      rw [if_pos e] at h4
      rw [e, pth_len] at h2
      rw [e, pb_pth hB n hn] at h3
      cases q
      simp only [Nat.zero_add] at h2 h3 h4 ⊢
      rw [h2, h3, h4]
    · right
      rw [if_neg e] at h4
      refine ⟨⟨p, h1, h2, h3, h4, h5⟩, fun x => e ?_⟩
      exact pb_inj _ _ k (by rw [pth_len]; omega) h1 (by rw [pb_pth hB n hn]; omega)
  · rintro (e | ⟨⟨p, h1, h2, h3, h4, h5⟩, hk⟩)
    · rw [e]
      exact ⟨pth k n B, hP, by rw [pth_len]; simp, by rw [pb_pth hB n hn]; simp, by rw [get_put, if_pos rfl], hg⟩
    · refine ⟨p, h1, h2, h3, ?_, h5⟩
      rw [get_put, if_neg fun e => hk ?_]
      · exact h4
      · rw [e, pth_len] at h2
        rw [e, pb_pth hB n hn] at h3
        exact ⟨by omega, by omega⟩
theorem rows_drop (hB : B < 2 ^ k) (hn : n ≤ k) (hf : t.fit k) : rowsS (Shp.dropped (pth k n B) t) k 0 0 = newRows k B n false gv (rowsS t k 0 0) := by
  have e0 : newRows k B n false gv (rowsS t k 0 0) = (rowsS t k 0 0).filter (fun q => !keyAt k B n q) := by
    unfold newRows
    rw [if_neg (by simp)]
  rw [e0]
  unfold Shp.dropped
  split
  · rename_i hg
    refine (List.filter_eq_self.mpr fun q hq => ?_).symm
    cases hk : keyAt k B n q with
    | false => rfl
    | true =>
      obtain ⟨h1, h2⟩ := key_mem hB hn hf hq hk
      rw [none_beq.mp hg] at h1
      exact absurd h1 h2
  · refine srt_ext (rows_srt _ k 0 0 (fit_drop _ _ _ hf)) ((rows_srt t k 0 0 hf).filter _) fun q => ?_
    rw [filt_mem, mem_rows _ k 0 0 (fit_drop _ _ _ hf), mem_rows t k 0 0 hf]
    constructor
    · rintro ⟨p, h1, h2, h3, h4, h5⟩
      rw [get_drop] at h4
      by_cases e : p = pth k n B
      · rw [if_pos e] at h4
        exact absurd h4.symm h5
      · rw [if_neg e] at h4
        refine ⟨⟨p, h1, h2, h3, h4, h5⟩, fun x => e ?_⟩
        exact pb_inj _ _ k (by rw [pth_len]; omega) h1 (by rw [pb_pth hB n hn]; omega)
    · rintro ⟨⟨p, h1, h2, h3, h4, h5⟩, hk⟩
      refine ⟨p, h1, h2, h3, ?_, h5⟩
      rw [get_drop, if_neg fun e => hk ?_]
      · exact h4
      · rw [e, pth_len] at h2
        rw [e, pb_pth hB n hn] at h3
        exact ⟨by omega, by omega⟩
theorem row_room (hf : t.fit k) {q : Rw} (hq : q ∈ rowsS t k 0 0) : q.l ≤ k ∧ q.b + 2 ^ (k - q.l) ≤ 2 ^ k ∧ lowOf k q.b q.l = q.b ∧ Shp.get (pth k q.l q.b) t = q.g ∧ q.g ≠ .none := by
  obtain ⟨p, h1, h2, h3, h4, h5⟩ := (mem_rows t k 0 0 hf q).mp hq
  rw [Nat.zero_add] at h2 h3
  have hr := pb_room p k h1
  have hm := pb_mod p k h1
  rw [h2, h3]
  refine ⟨h1, hr, ?_, by rw [pth_pb h1]; exact h4, h5⟩
  unfold lowOf
  rw [hm, Nat.sub_zero]
end
theorem filter_erase {rs : List Rw} (hs : Srt rs) {i : Nat} {q : Rw} {k : Nat} (hq : rs[i]? = some q) (hl : lowOf k q.b q.l = q.b) : rs.filter (fun x => !keyAt k q.b q.l x) = rs.eraseIdx i := by
  refine srt_ext (hs.filter _) (List.Pairwise.sublist (List.eraseIdx_sublist _ _) hs) fun x => ?_
  rw [filt_mem, hl, List.mem_eraseIdx_iff_getElem?]
  obtain ⟨hi, ei⟩ := List.getElem?_eq_some_iff.mp hq
  constructor
  · rintro ⟨h1, h2⟩
    obtain ⟨j, hj, e⟩ := List.getElem_of_mem h1
    refine ⟨j, fun e2 => h2 ?_, by rw [List.getElem?_eq_getElem hj, e]⟩
    subst e2
    rw [← e, ei]
    exact ⟨rfl, rfl⟩
  · rintro ⟨j, hj, e⟩
    refine ⟨List.mem_of_getElem? e, fun h => ?_⟩
    obtain ⟨hj', ej⟩ := List.getElem?_eq_some_iff.mp e
    rcases Nat.lt_or_gt_of_ne hj with hlt | hlt
    · have := List.pairwise_iff_getElem.mp hs _ _ hj' hi hlt
      rw [ej, ei, rlt_iff] at this; omega
    · have := List.pairwise_iff_getElem.mp hs _ _ hi hj' hlt
      rw [ej, ei, rlt_iff] at this; omega
theorem rows_nil {l r : Shp} {g : Value} {n : Nat} (ht : (Shp.node l r g).tight) (h : rowsS (.node l r g) n 0 0 = []) : l = .nil ∧ r = .nil ∧ g = .none := by
  rw [rowsS] at h
  obtain ⟨e1, e2⟩ := List.append_eq_nil_iff.mp h
  obtain ⟨e2, e3⟩ := List.append_eq_nil_iff.mp e2
  refine ⟨?_, ?_, ?_⟩
  · cases l with
    | nil => rfl
    | node _ _ _ => exact absurd e2 (rowsS_ne ht.1 (by simp) _ _ _)
  · cases r with
    | nil => rfl
    | node _ _ _ => exact absurd e3 (rowsS_ne ht.2 (by simp) _ _ _)
  · split at e1
    · rename_i hg; exact none_beq.mp hg
    · cases e1
theorem ins_length (r : Rw) (rs : List Rw) : (ins r rs).length = rs.length + 1 := by
  unfold ins
  have := insAt_le rs r
  rw [List.length_append, List.length_cons, List.length_take, List.length_drop]
  omega
theorem newRows_length (k B n : Nat) (b : Bool) (g : Value) (rs : List Rw) : (newRows k B n b g rs).length ≤ rs.length + 1 := by
  unfold newRows
  have := List.length_filter_le (fun q => !keyAt k B n q) rs
  split
  · rw [ins_length]; omega
  · omega
theorem fit_sz : ∀ (t : Tre) (n : Nat), t.er.fit n → t.sz < 2 ^ (n + 1)
  | .nil, n, _ => pow_pos2 _
  | .node a l r g, 0, h => by
    have h' : l.er = .nil ∧ r.er = .nil := h
    cases l with
    | node _ _ _ _ => cases h'.1
    | nil =>
      cases r with
      | node _ _ _ _ => cases h'.2
      | nil => simp [Tre.sz]
  | .node a l r g, n + 1, h => by
    have h' : l.er.fit n ∧ r.er.fit n := h
    have h1 := fit_sz l n h'.1
    have h2 := fit_sz r n h'.2
    have e := pow_succ2 (n + 1)
    show 1 + (l.sz + r.sz) < 2 ^ (n + 1 + 1)
    omega
theorem fit_sz9 {t : Tre} {n : Nat} (h : t.er.fit n) (hn : n ≤ 9) : t.sz ≤ 100000 := by
  have h1 := fit_sz t n h
  have h2 : 2 ^ (n + 1) ≤ 2 ^ 10 := Nat.pow_le_pow_right (by omega) (by omega)
  omega
end
section -- Ex1
set_option maxRecDepth 100000
open Sem (wp)
open Builtin Builtin.ObjectAttr
/-- a class of one own class over a built-in exception -/
structure Cls2 (h : Heap) (C N W : Addr) (bmB : List Value) (newId : String) (mN mW : Str → Option Value) : Prop where
  hC : ∃ nm q bs sn sub ab col dd k0 k1 k2 k3 k5, h.get? C = some (excClassObj nm q C N bs (.ref W :: bmB) true sn sub ab col dd k0 k1 k2 k3 k5 newId)
  hn : h.Ns N mN
  hW : ∃ c0 dd cd sl, h.get? W = some { cls := c0, dict := dd, data := .cls cd, slots := sl } ∧ h.Ns cd.ns mW
theorem Cls2.keeps {h h' : Heap} {C N W : Addr} {bmB : List Value} {newId : String} {mN mW : Str → Option Value} (K : Cls2 h C N W bmB newId mN mW) (hk : ∀ b o, h.get? b = some o → h'.get? b = some o) : Cls2 h' C N W bmB newId mN mW := by
  obtain ⟨⟨nm, q, bs, sn, sub, ab, col, dd, k0, k1, k2, k3, k5, hC⟩, hn, ⟨c0, d2, cd, sl, hW, hnW⟩⟩ := K
  exact ⟨⟨nm, q, bs, sn, sub, ab, col, dd, k0, k1, k2, k3, k5, hk _ _ hC⟩, hn.keeps hk, ⟨c0, d2, cd, sl, hk _ _ hW, hnW.keeps hk⟩⟩
section
variable {M : Model} {A : Around} {E : Value → Shared → Prop} {h : Heap} {g : Array GenState} {d : Drawn} {t : Nat} {os : OsState}
variable {C N W : Addr} {bmB : List Value} {B newId initId : String} {mN mW : Str → Option Value}
theorem tl_two {name : Str} {y : Option Value} {Q : Option Value → Shared → Prop} (K : Cls2 h C N W bmB newId mN mW) (hna : mN name = none) (hbm : mroOf (.type B) = pure bmB) (hB : typeLookup (.type B) name = pure y)
    (hq : Q (match mW name with | some v => some v | none => y) ⟨h, g, d, t, os⟩) : wpAny M A (typeLookup (.ref C) name) Q E ⟨h, g, d, t, os⟩ := by
  obtain ⟨⟨nm, q, bs, sn, sub, ab, col, dd, k0, k1, k2, k3, k5, hC⟩, hn, ⟨c0, d2, cd, sl, hW, hnW⟩⟩ := K
  have hrest : lookupAlong bmB name = pure y := by rw [typeLookup_eq, hbm] at hB; exact hB
  rw [typeLookup_eq]
  refine wpAny_bind (wpAny_mroOf_exc hC ?_)
  rw [lookupAlong_cons]
  refine wpAny_bind (wpAny_classOwn_exc hC hn ?_)
  rw [hna]
  show wpAny M A (lookupAlong (.ref W :: bmB) name) Q E _
  rw [lookupAlong_cons]
  refine wpAny_bind (wpAny_classOwn_cls hW hnW ?_)
  cases hv : mW name with
  | some v => rw [hv] at hq; exact wpAny_pure hq
  | none => rw [hv] at hq; show wpAny M A (lookupAlong bmB name) Q E _; rw [hrest]; exact wpAny_pure hq
theorem tl_miss {name : Str} {y : Option Value} {Q : Option Value → Shared → Prop} (K : Cls2 h C N W bmB newId mN mW) (hna : mN name = none) (hnw : mW name = none) (hbm : mroOf (.type B) = pure bmB) (hB : typeLookup (.type B) name = pure y)
    (hq : Q y ⟨h, g, d, t, os⟩) : wpAny M A (typeLookup (.ref C) name) Q E ⟨h, g, d, t, os⟩ := tl_two K hna hbm hB (by rw [hnw]; exact hq)
theorem tl_hit {name : Str} {y : Option Value} {v : Value} {Q : Option Value → Shared → Prop} (K : Cls2 h C N W bmB newId mN mW) (hna : mN name = none) (hnw : mW name = some v) (hbm : mroOf (.type B) = pure bmB) (hB : typeLookup (.type B) name = pure y)
    (hq : Q (some v) ⟨h, g, d, t, os⟩) : wpAny M A (typeLookup (.ref C) name) Q E ⟨h, g, d, t, os⟩ := tl_two K hna hbm hB (by rw [hnw]; exact hq)
theorem check_new2 (F : ExcBaseFacts B newId initId bmB) {rest : List Value} {Q : Unit → Shared → Prop} (K : Cls2 h C N W bmB newId mN mW)
    (hq : Q () ⟨h, g, d, t, os⟩) : wpAny M A (checkBuiltinCall newId ⟨.ref C :: rest, []⟩) Q E ⟨h, g, d, t, os⟩ := by
  obtain ⟨⟨nm, q, bs, sn, sub, ab, col, dd, k0, k1, k2, k3, k5, hC⟩, hn, _⟩ := K
  have hcont : (Value.ref C :: .ref W :: bmB).contains (.type B) = true := by rw [List.contains_cons, List.contains_cons, F.hasB, Bool.or_true, Bool.or_true]
  have hstar := F.noStar
  simp only [checkBuiltinCall, F.newKind, F.newSplit, F.newRow]
  repeat (first | refine wpAny_loadPart_at hC ?_ | (refine wpAny_isSubtype_exc hC ?_; rw [hcont]) | refine wpAny_staticBase_exc hC ?_ | refine wpAny_madeBy_exc hC ?_ | simp only [bne_self_eq_false, Bool.false_eq_true, if_false] | wp_step)
  exact hq
theorem check_init2 (F : ExcBaseFacts B newId initId bmB) {e : Addr} {oe : Obj} {rest : List Value} {Q : Unit → Shared → Prop} (K : Cls2 h C N W bmB newId mN mW)
    (he : h.get? e = some oe) (hcls : oe.cls = .ref C) (hq : Q () ⟨h, g, d, t, os⟩) :
    wpAny M A (checkBuiltinCall initId ⟨.ref e :: rest, []⟩) Q E ⟨h, g, d, t, os⟩ := by
  obtain ⟨⟨nm, q, bs, sn, sub, ab, col, dd, k0, k1, k2, k3, k5, hC⟩, hn, _⟩ := K
  have hcB : (Value.ref C :: .ref W :: bmB).contains (.type B) = true := by rw [List.contains_cons, List.contains_cons, F.hasB, Bool.or_true, Bool.or_true]
  have hshort := F.noStar
  simp only [checkBuiltinCall, F.initKind, F.initSplit, F.initRow]
  repeat (first | (with_reducible refine wpAny_loadPart_at he ?_; rw [hcls]) | with_reducible refine wpAny_loadPart_at hC ?_ | (with_reducible refine wpAny_isSubtype_exc hC ?_; rw [hcB]) | wp_step)
  refine wpAny_onRaise ?_
  rw [show ∀ (a b : String) (n : Nat), Bind.check ⟨.positional, "*", B, .self, [⟨"args", .varPos, false⟩]⟩ a b n (List.map (fun x => x.fst) ({ pos := Value.ref e :: rest } : Args).kw) = pure () from
    fun a b n => check_star_args _ _ _ _ _ _]
  exact wpAny_pure hq
end
section
variable {prog : Program} {w : World} {A : Around} {E : Value → Shared → Prop} {h : Heap} {g : Array GenState} {d : Drawn} {t : Nat} {os : OsState}
variable {C N W : Addr} {bmB : List Value} {B newId initId : String} {mN mW : Str → Option Value}
abbrev exc0 (C t : Addr) (dict : Option Addr) : Obj := { cls := .ref C, dict := dict, data := .fields #[.ref t, .none, .none, .none, .bool false, .none] }
abbrev tup0 (vs : List Value) : Obj := { cls := .type "tuple", data := .seq vs.toArray }
theorem code_new2 {R : Result → Shared → Prop} (F : ExcBaseFacts B newId initId bmB) {rest : List Value} (K : Cls2 h C N W bmB newId mN mW)
    (hq : R (.ok (.ret (.ref (h.objs.size + 1)))) ⟨(h.push (tup0 rest)).push (exc0 C h.objs.size none), g, d, t, os⟩) (hrest : rest.length ≤ sizeLine := by size_fits) :
    codeAny (model prog w) A (.builtin newId ⟨.ref C :: rest, []⟩) R ⟨h, g, d, t, os⟩ := by
  obtain ⟨⟨nm, q, bs, sn, sub, ab, col, dd, k0, k1, k2, k3, k5, hC⟩, hn, _⟩ := K
  have hends := F.ends
  have hcB : (Value.ref C :: .ref W :: bmB).contains (.type B) = true := by rw [List.contains_cons, List.contains_cons, F.hasB, Bool.or_true, Bool.or_true]
  have hcA : (Value.ref C :: .ref W :: bmB).contains (.type "AttributeError") = false := by rw [List.contains_cons, List.contains_cons, F.noAttr]; rfl
  have hcN : (Value.ref C :: .ref W :: bmB).contains (.type "NameError") = false := by rw [List.contains_cons, List.contains_cons, F.noName]; rfl
  refine codeAny_builtinAt F.entry ?_
  unfold Builtin.«BaseException.__new__»
  refine PySem.wpAt_bind ?_
  show PySem.wpAt _ _ _ (stack >>= _) _ _ _
  refine PySem.wpAt_bind (PySem.wpAt_stack fun p below => PySem.wpAt_of_wpAny ?_)
  wp_walk
  refine PySem.wpAt_of_wpAny ?_
  rw [F.owner]
  repeat (first | with_reducible refine wpAny_madeHere_exc F.canon hC ?_ | with_reducible refine wpAny_loadPart_at hC ?_ | (with_reducible refine wpAny_isSubtype_exc hC ?_; first | rw [hcB] | rw [hcA] | rw [hcN]) | wp_step)
  show R _ _
  rw [Heap.size_push]
  exact hq
theorem type_call2 (F : ExcBaseFacts B newId initId bmB) {rest : List Value} {fI : Addr} {oI : Obj} {Q : Fin → Shared → Prop} (K : Cls2 h C N W bmB newId mN mW)
    (hna : mN "__init__" = none) (hi : mW "__init__" = some (.ref fI)) (hfI : h.get? fI = some oI) (hfc : oI.cls = .type "function")
    (hq : wpAny (model prog w) A (call (.ref fI) (.ref (h.objs.size + 1) :: rest)) (fun r s' => r = .none ∧ Q (.done (.ret (.ref (h.objs.size + 1)))) s') E ⟨(h.push (tup0 rest)).push (exc0 C h.objs.size none), g, d, t, os⟩) (hrest : rest.length ≤ sizeLine := by size_fits) :
    wpAny (model prog w) A (Builtin.«type.__call__» ⟨.ref C :: rest, []⟩) Q E ⟨h, g, d, t, os⟩ := by
  have K0 := K
  obtain ⟨⟨nm, q, bs, sn, sub, ab, col, dd, k0, k1, k2, k3, k5, hC⟩, hn, _⟩ := K
  have kp : ∀ b o, h.get? b = some o → ((h.push (tup0 rest)).push (exc0 C h.objs.size none)).get? b = some o := fun b o hb => Heap.get?_push_of_some _ (Heap.get?_push_of_some _ hb)
  repeat (first | with_reducible refine wpAny_loadPart_at hC ?_ | with_reducible refine wpAny_madeBy_exc hC ?_ | wp_step)
  refine codeAny_call_builtin_code (Code.quiet_builtin _ F.quiet) (check_new2 F K0 ?_)
  refine code_new2 F K0 ?_ hrest
  show wpAny _ _ _ _ _ _
  have hC₁ := kp _ _ hC
  have hfI₁ := kp _ _ hfI
  have K1 := K0.keeps kp
  have hget : ((h.push (tup0 rest)).push (exc0 C h.objs.size none)).get? (h.objs.size + 1) = some (exc0 C h.objs.size none) := by heap_get
  have hcC : (Value.ref C :: .ref W :: bmB).contains (.ref C) = true := by simp
  unfold isInstance
  repeat (first | with_reducible refine wpAny_loadPart_at hget ?_ | (with_reducible refine wpAny_isSubtype_exc hC₁ ?_; rw [hcC]) | wp_step)
  show wpAny _ _ (typeLookup (.ref C) _) _ _ _
  refine tl_hit K1 hna hi F.mroIs F.init.lookup ?_
  refine wpAny_holding (wpAny_bind ?_)
  unfold bindSpecial
  refine wpAny_bind (wpAny_typeOf (T := "function") ⟨_, hfI₁, hfc⟩ ?_)
  rw [if_pos (by decide)]
  refine wpAny_pure (wpAny_bind (wpAny_mono hq (fun r s' hr => ?_) fun _ _ x => x))
  obtain ⟨rfl, hQ⟩ := hr
  wp_walk
  exact hQ
theorem call2 (F : ExcBaseFacts B newId initId bmB) {rest : List Value} {fI : Addr} {oI : Obj} {Q : Value → Shared → Prop} (K : Cls2 h C N W bmB newId mN mW)
    (hna : mN "__init__" = none) (hi : mW "__init__" = some (.ref fI)) (hfI : h.get? fI = some oI) (hfc : oI.cls = .type "function")
    (hq : wpAny (model prog w) (A.under (.builtin "type.__call__" ⟨.ref C :: rest, []⟩)) (call (.ref fI) (.ref (h.objs.size + 1) :: rest)) (fun r s' => r = .none ∧ Q (.ref (h.objs.size + 1)) s') E ⟨(h.push (tup0 rest)).push (exc0 C h.objs.size none), g, d, t, os⟩) (hrest : rest.length ≤ sizeLine := by size_fits) :
    wpAny (model prog w) A (call (.ref C) rest) Q E ⟨h, g, d, t, os⟩ := by
  have K0 := K
  obtain ⟨⟨nm, q, bs, sn, sub, ab, col, dd, k0, k1, k2, k3, k5, hC⟩, hn, _⟩ := K
  have f1 := tc_lookup
  have f2 := tc_bind (.ref C)
  have hT : (⟨h, g, d, t, os⟩ : Shared).TypeIs (.ref C) "type" := ⟨_, hC, rfl⟩
  refine wpAny_call (codeAny_of_tree ?_)
  show wpAny _ _ (callAny (.ref C) _) _ _ _
  repeat (any_goals (first | assumption | with_reducible refine wpAny_loadPart_at hC ?_ | wp_step))
  refine ⟨rfl, ?_⟩
  refine codeAny_call_builtin_at (Code.quiet_builtin _ (by decide +kernel)) entry_typeCall (wpAny_check_type_call_sub hC (type_call2 (hrest := hrest) F K0 hna hi hfI hfc hq))
end
end
section -- Ex2
set_option maxRecDepth 100000
open Sem (wp)
/-- a tree that calls nothing and leaves every object's dict where it is -/
noncomputable def Calm {α : Type} : Sem α → Prop
  | .pure _ => True
  | .raise _ => True
  | .unsupported _ => True
  | .finish _ => True
  | .rule _ k => Calm (k ())
  | .at _ k => Calm (k ())
  | .load _ _ k => ∀ o, Calm (k o)
  | .update _ _ f k => (∀ o, (f o).dict = o.dict ∧ (o.isFreed = false → (f o).isFreed = false)) ∧ Calm (k ())
  | .loadIfAlive _ k => ∀ o, Calm (k o)
  | .point _ k => Calm (k ())
  | .alloc _ k => ∀ a, Calm (k a)
  | .fresh k => ∀ a, Calm (k a)
  | .ask k => ∀ a, Calm (k a)
  | .handled _ k => ∀ a, Calm (k a)
  | .stack k => ∀ a, Calm (k a)
  | .thread k => ∀ a, Calm (k a)
  | _ => False
noncomputable def HasDict (h : Heap) (e D : Addr) : Prop := ∃ o, h.get? e = some o ∧ o.dict = some D
theorem HasDict.push {h : Heap} {e D : Addr} (x : HasDict h e D) (o : Obj) : HasDict (h.push o) e D :=
  let ⟨ob, h1, h2⟩ := x; ⟨ob, Heap.get?_push_of_some _ h1, h2⟩
theorem HasDict.update {h : Heap} {e D a : Addr} (x : HasDict h e D) {f : Obj → Obj} (hf : ∀ o, (f o).dict = o.dict ∧ (o.isFreed = false → (f o).isFreed = false)) : HasDict (h.update a f) e D := by
  obtain ⟨ob, h1, h2⟩ := x
  by_cases q : a = e
  · subst q
    have hfr := (Heap.get?_some_iff.mp h1).2
    exact ⟨f ob, Heap.get?_update_self f h1 ((hf ob).2 hfr), (hf ob).1.trans h2⟩
  · exact ⟨ob, (Heap.get?_update_other _ _ q).trans h1, h2⟩
theorem calm_wp {α : Type} {M : Model} {Γ : Ctx} {e D : Addr} : ∀ (t : Sem α), Calm t → ∀ {Q : α → Pos → Shared → Prop} {E : Value → Pos → Shared → Prop} {p : Pos} {s : Shared}, HasDict s.heap e D → wp M Γ t Q E p s →
    wp M Γ t (fun a p' s' => Q a p' s' ∧ HasDict s'.heap e D) (fun x p' s' => E x p' s' ∧ HasDict s'.heap e D) p s := by
  intro t
  induction t with
  | pure a => intro _ Q E p s hd h; exact ⟨h, hd⟩
  | raise x => intro _ Q E p s hd h; exact ⟨h, hd⟩
  | unsupported x => intro _ Q E p s hd h; exact h
  | finish x => intro _ Q E p s hd h; exact h
  | rule t k ih => intro c Q E p s hd h; exact ih () c hd h
  | «at» t k ih => intro c Q E p s hd h; exact ih () c hd h
  | load a b k ih => intro c Q E p s hd h; obtain ⟨o, h1, h2⟩ := h; exact ⟨o, h1, ih o (c o) hd h2⟩
  | update a b f k ih => intro c Q E p s hd h; exact ⟨h.1, ih () c.2 (s := { s with heap := s.heap.update a f }) (hd.update c.1) h.2⟩
  | alloc o k ih => intro c Q E p s hd h; exact ih _ (c _) (s := { s with heap := s.heap.push o }) (hd.push o) h
  | loadIfAlive a k ih => intro c Q E p s hd h; exact ih _ (c _) hd h
  | point a k ih => intro c Q E p s hd h; exact ih () c hd h
  | fresh k ih => intro c Q E p s hd h; exact ih _ (c _) (s := { s with toks := s.toks + 1 }) hd h
  | ask k ih => intro c Q E p s hd h; exact ih _ (c _) hd h
  | handled o k ih => intro c Q E p s hd h; exact ih _ (c _) hd h
  | stack k ih => intro c Q E p s hd h; exact ih _ (c _) hd h
  | thread k ih => intro c Q E p s hd h; exact ih _ (c _) hd h
  | _ => intro c; exact c.elim
theorem with_dict {α : Type} {M : Model} {A : Around} {e D : Addr} {t : Sem α} {Q : α → Shared → Prop} {E : Value → Shared → Prop} {s : Shared} (c : Calm t) (hd : HasDict s.heap e D) (h : wpAny M A t Q E s) :
    wpAny M A t (fun a s' => Q a s' ∧ HasDict s'.heap e D) (fun x s' => E x s' ∧ HasDict s'.heap e D) s := fun Γ p hΓ => calm_wp t c hd (h Γ p hΓ)
theorem calm_bind {α β : Type} {m : Sem α} {f : α → Sem β} (hm : Calm m) (hf : ∀ a, Calm (f a)) : Calm (m >>= f) := by
  show Calm (m.bind f)
  induction m with
  | pure a => exact hf a
  | raise x => trivial
  | unsupported x => trivial
  | finish x => trivial
  | rule t k ih => exact ih () hm
  | «at» t k ih => exact ih () hm
  | load a b k ih => exact fun o => ih o (hm o)
  | update a b f k ih => exact ⟨hm.1, ih () hm.2⟩
  | alloc o k ih => exact fun o => ih o (hm o)
  | loadIfAlive a k ih => exact fun o => ih o (hm o)
  | point a k ih => exact ih () hm
  | fresh k ih => exact fun o => ih o (hm o)
  | ask k ih => exact fun o => ih o (hm o)
  | handled b k ih => exact fun o => ih o (hm o)
  | stack k ih => exact fun o => ih o (hm o)
  | thread k ih => exact fun o => ih o (hm o)
  | _ => exact hm.elim
theorem calm_pure {α : Type} (a : α) : Calm (pure a : Sem α) := trivial
theorem calm_unsupported {α : Type} (w : String) : Calm (PySem.unsupported w : Sem α) := trivial
theorem calm_load (a : Addr) : Calm (PySem.load a) := fun _ => trivial
theorem calm_alloc (o : Obj) : Calm (PySem.alloc o) := fun _ => trivial
theorem calm_stack : Calm PySem.stack := fun _ => trivial
theorem calm_update (a : Addr) {f : Obj → Obj} (hf : ∀ o, (f o).dict = o.dict ∧ (o.isFreed = false → (f o).isFreed = false)) : Calm (PySem.update a f) := ⟨hf, trivial⟩
theorem calm_ite {α : Type} {c : Prop} [Decidable c] {x y : Sem α} (hx : Calm x) (hy : Calm y) : Calm (if c then x else y) := by split <;> assumption
theorem freed_slots (o : Obj) (sl : Array (Option Value)) : ({ o with slots := sl } : Obj).isFreed = o.isFreed := by
  obtain ⟨_, _, dt, _⟩ := o
  cases dt <;> rfl
theorem freed_fields (o : Obj) (f : Array Value → Array Value) : (Obj.mapFields f o).dict = o.dict ∧ (o.isFreed = false → (Obj.mapFields f o).isFreed = false) := by
  obtain ⟨_, _, dt, _⟩ := o
  cases dt <;> exact ⟨rfl, fun h => h⟩
theorem calm_fieldsOf (v : Value) : Calm (fieldsOf v) := by
  unfold fieldsOf
  split
  · refine calm_bind (calm_load _) fun o => ?_
    split
    · exact calm_pure _
    · exact calm_unsupported _
  · exact calm_unsupported _
theorem calm_field (v : Value) (i : Nat) : Calm (field v i) := by
  unfold field
  refine calm_bind (calm_fieldsOf v) fun x => ?_
  split
  · exact calm_pure _
  · exact calm_unsupported _
theorem calm_setField (v : Value) (i : Nat) (x : Value) : Calm (setField v i x) := by
  unfold setField
  split
  · unfold updateField
    refine calm_bind (calm_load _) fun o => ?_
    split
    · refine calm_ite ?_ (calm_unsupported _)
      exact calm_update _ fun o => freed_fields o _
    · exact calm_unsupported _
  · exact calm_unsupported _
theorem calm_setFlight (e : Value) (f : Option Addr) : Calm (setFlight e f) := by
  unfold setFlight
  refine calm_bind (calm_field _ _) fun tb => ?_
  exact calm_ite (calm_setField _ _ _) (calm_pure _)
theorem calm_frameEnvs : Calm frameEnvs := calm_bind calm_stack fun _ => calm_pure _
theorem calm_readyFrames : ∀ l : List Env, Calm (readyFrames l)
  | [] => calm_pure _
  | env :: outer => by
    unfold readyFrames
    split
    · refine calm_bind (calm_load _) fun o => ?_
      refine calm_ite (calm_pure _) ?_
      have h1 : Calm (behindIsImport env outer) := by
        unfold behindIsImport
        refine calm_ite (calm_pure _) ?_
        refine calm_ite (calm_pure _) ?_
        exact calm_bind (calm_field _ _) fun _ => calm_pure _
      refine calm_bind h1 fun im => ?_
      have h2 : Calm (keptBack env im outer) := by
        unfold keptBack
        split
        · refine calm_ite (calm_pure _) ?_
          refine calm_bind ?_ fun _ => calm_pure _
          exact calm_bind calm_stack fun _ => calm_pure _
        · exact calm_pure _
      refine calm_bind h2 fun back => ?_
      refine calm_bind (calm_update _ fun o => ⟨rfl, fun h => ?_⟩) fun _ => calm_readyFrames outer
      rw [freed_slots]; exact h
    · exact calm_unsupported _
theorem calm_frameOf (env : Env) : Calm (PySem.frameOf env) := by
  unfold PySem.frameOf
  refine calm_bind calm_frameEnvs fun l => ?_
  refine calm_bind ?_ fun r => ?_
  · unfold frameObject
    split
    · exact calm_pure _
    · exact calm_bind (calm_readyFrames _) fun _ => calm_pure _
  · split
    · exact calm_pure _
    · exact calm_unsupported _
theorem calm_entryPlaceOf (f : Addr) (b : Bool) : Calm (entryPlaceOf f b) := by
  unfold entryPlaceOf
  refine calm_bind calm_stack fun l => ?_
  split
  · exact calm_pure _
  · exact calm_pure _
theorem calm_newEntry (a b c d e : Value) (l : List Value) : Calm (EntryCells.newEntry a b c d e l) := by
  unfold EntryCells.newEntry newFields newObj
  dsimp only
  refine calm_ite (calm_bind (calm_unsupported _) fun _ => ?_) ?_
  all_goals first | exact calm_bind (calm_alloc _) fun _ => calm_pure _ | (unfold newObjAsIs; exact calm_bind (calm_alloc _) fun _ => calm_pure _)
theorem calm_noteFrame (e : Value) (env : Env) : Calm (noteFrame e env) := by
  unfold noteFrame
  split
  · rename_i f hf
    refine calm_bind (calm_field _ _) fun head => ?_
    have last : Calm (do setField e 1 (← EntryCells.newEntry head (← PySem.frameOf env) .none (rawInt f) .none (← entryPlaceOf f (head != .none)))) :=
      calm_bind (calm_frameOf env) fun a => calm_bind (calm_entryPlaceOf _ _) fun pl => calm_bind (calm_newEntry _ _ _ _ _ _) fun b => calm_setField _ _ _
    refine calm_ite ?_ last
    refine calm_bind (calm_field _ _) fun x => ?_
    refine calm_ite (calm_pure _) ?_
    exact calm_bind (calm_setField _ _ _) fun _ => last
  · exact calm_unsupported _
theorem calm_leaving (e : Value) (env : Env) : Calm (leaving env e) := by
  unfold leaving
  exact calm_bind (calm_noteFrame e env) fun _ => calm_setFlight _ _
end
section -- Ex3
set_option maxRecDepth 100000
open PySem.Spec
section
variable {M : Model} {A : Around} {E : Value → Shared → Prop} {s' : Shared} {base g g₂ : Heap} {outer : List Env} {L a e D : Addr} {m : Str → Option Value} {name : Str} {scope : Scope} {cd cls a0 : Value} {Q : Unit → Shared → Prop} {news : List (Addr × Obj)} {oe : Obj} {vs : Array Value}
/-- an exception with a dict of its own leaves the frame that raised it -/
theorem leave_raise2 (K : Below A base outer g) (F : Fr g L s'.heap m) (N : News g L s'.heap ((e, oe) :: news)) (off : ∀ q ∈ news, q.1 ≠ e) (hcl : oe.cls = cls) (hd : oe.data = .fields vs) (h1 : vs[1]? = some .none) (h0 : vs[0]? = some a0) (hD : oe.dict = some D)
    (hQ : ∀ h', RaisedSN base g outer e cls news h' → g.UpToSlots h' → HasDict h' e D → Q () { s' with heap := h' }) (hk : scope.kind = .function := by rfl) :
    wpAny M (A.deeper (envOf name scope L a cd)) (leaving (envOf name scope L a cd) (.ref e)) Q E s' := by
  have K' := K.push (name := name) (a := a) (cd := cd) F hk
  obtain ⟨he, heL, heg⟩ := N _ (.head _)
  have heb : base.get? e = none := fresh_of_stays K.stays heg
  generalize hfs : (envOf name scope L a cd :: outer).filterMap (·.frame) = fs
  have hin : ∀ env ∈ (envOf name scope L a cd :: outer), ∀ b, env.frame = some b → b ∈ e :: fs := fun env hv b hb => .tail _ (hfs ▸ List.mem_filterMap.mpr ⟨env, hv, hb⟩)
  have st : base.StaysIn (hideAll s'.heap (e :: fs)) := fun b o q => hideAll_get _ (K'.stays b o q) fun hm => by
    rcases List.mem_cons.mp hm with z | z
    · rw [z, heb] at q; cases q
    · rw [← hfs] at z
      rw [(K'.frames.mem z).1] at q; cases q
  have sg : ∀ b o, g.get? b = some o → b ∉ outer.filterMap (·.frame) → (hideAll s'.heap (e :: fs)).get? b = some o := fun b o q nm => hideAll_get _ (F.keep b o q) fun hm => by
    rcases List.mem_cons.mp hm with z | z
    · rw [z, heg] at q; cases q
    · rw [← hfs] at z
      rcases kts_mem z with z | z
      · rw [z, kts_self F] at q; cases q
      · exact nm z
  have hl : ∀ q ∈ news, (hideAll s'.heap (e :: fs)).get? q.1 = some q.2 ∧ g.get? q.1 = none ∧ base.get? q.1 = none := fun q hq => by
    have Nq := N q (.tail _ hq)
    refine ⟨hideAll_get _ Nq.1 fun hm => ?_, Nq.2.2, fresh_of_stays K.stays Nq.2.2⟩
    rcases List.mem_cons.mp hm with z | z
    · exact off q hq z
    · rw [← hfs] at z
      rcases kts_mem z with z | z
      · exact Nq.2.1 z
      · obtain ⟨o, ho, _⟩ := (K.frames.mem z).2
        rw [Nq.2.2] at ho; cases ho
  have hen : (hideAll s'.heap (e :: fs)).get? e = none := hideAll_none _ (.head _)
  subst hcl
  refine wpAny_mono (with_dict (calm_leaving _ _) ⟨oe, he, hD⟩ (wpAny_leaving_firstW (base := hideAll s'.heap (e :: fs)) (a0 := a0) (Q := fun _ s₂ => ∃ h', s₂ = { s' with heap := h' } ∧ RaisedSN base g outer e oe.cls news h' ∧ g.UpToSlots h') K'.stack (funFrames_hide K'.frames hin) rfl he (fun b o hb => of_hideAll _ hb) hen hd h1 h0 fun h' hL => ?_)) (fun _ s₂ h₂ => ?_) fun _ _ h => h.1
  · obtain ⟨k1, ⟨_, _, k2⟩, k3, k4⟩ := hL
    exact ⟨h', rfl, ⟨_, a0, st, sg, hl, k1, hen, k2, k3⟩, (Heap.UpToSlots.of_keeps F.keep).trans k4⟩
  · obtain ⟨⟨h', rfl, h3, h4⟩, h5⟩ := h₂
    exact hQ h' h3 h4 h5
theorem leave_on2 (K : Below A base outer g) (F : Fr g L g₂ m) (R : RaisedSN base g₂ (envOf name scope L a cd :: outer) e cls news s'.heap) (hsm : g₂.UpToSlots s'.heap) (hd : HasDict s'.heap e D)
    (hQ : ∀ h', RaisedSN base g outer e cls news h' → g.UpToSlots h' → HasDict h' e D → Q () { s' with heap := h' }) :
    wpAny M (A.deeper (envOf name scope L a cd)) (leaving (envOf name scope L a cd) (.ref e)) Q E s' := by
  refine wpAny_mono (with_dict (calm_leaving _ _) hd (leave_onSN (Q := fun _ s₂ => ∃ h', s₂ = { s' with heap := h' } ∧ RaisedSN base g outer e cls news h' ∧ g.UpToSlots h') K F R hsm fun h' h1 _ h2 => ⟨h', rfl, h1, h2⟩)) (fun _ s₂ h₂ => ?_) fun _ _ h => h.1
  obtain ⟨⟨h', rfl, h3, h4⟩, h5⟩ := h₂
  exact hQ h' h3 h4 h5
end
section
variable {prog : Program} {w : World} {A₀ : Around} {E : Value → Shared → Prop} {s' : Shared} {base g g₀ G : Heap} {outer : List Env} {L a e C D : Addr} {m : Str → Option Value} {name : Str} {scope : Scope} {cd : Value}
  {n : Str} {b₀ : Stmt} {suite : List Stmt} {pos np : Pos} {rest : List ExceptHandler} {Q : Flow → Shared → Prop} {news : List (Addr × Obj)} {KF : Frag}
  {p : Program} {loose : List Str} {mean : ExcName → Option Value} {mg mb : Str → Option Value} {x : Str}
/-- caught under a name of the frame's, by its own class -/
theorem caught2 (R : RaisedSN base G (envOf name scope L a cd :: outer) e (.ref C) news s'.heap) (hdict : HasDict s'.heap e D) (F : Fr g L G m) (K : Below A₀ base outer g) (hsm : G.UpToSlots s'.heap) (XB : KF.In base) (TB : Top p loose mean mg mb base)
    (Dc : KtsDicts (outer.filterMap (·.frame)) g) (T0 : KtsTurn (outer.filterMap (·.frame)) g₀ g) (ex : nsIn KF mainGlobals x = some (some (.ref C))) (q : ktsIn KF C "BaseException" = true)
    (k : ∀ h' g' tk oe, KtsTurn (outer.filterMap (·.frame)) g₀ g' → Fr g' L h' (fun y => if y = n then some (.ref e) else m y) → News g' L h' ((e, oe) :: news) → oe.cls = .ref C → notCls oe = true → oe.dict = some D → Below A₀ base outer g' → KF.In g' → Top p loose mean mg mb g' → KtsDicts (outer.filterMap (·.frame)) g' →
      wpAny (model prog w) ((A₀.deeper (envOf name scope L a cd)).mark (some (.ref e))) (execs (b₀ :: suite) (envOf name scope L a cd))
        (fun f s₄ => wpAny (model prog w) (A₀.deeper (envOf name scope L a cd)) (do bindName (envOf name scope L a cd) n .none; unbindBehindTheSuite (envOf name scope L a cd) n pos) (fun _ s₅ => Q f s₅) E s₄)
        (AsSuiteRaised (model prog w) ((A₀.deeper (envOf name scope L a cd)).mark (some (.ref e))) (envOf name scope L a cd) n pos (notedBy (model prog w) ((A₀.deeper (envOf name scope L a cd)).mark (some (.ref e))) (envOf name scope L a cd) (cameBackBy (model prog w) (A₀.deeper (envOf name scope L a cd)) (envOf name scope L a cd) E)))
        { s' with heap := h', toks := tk })
    (hk : scope.kind = .function := by rfl) (hlo : (envOf name scope L a cd).kindOf n = some .local := by rfl) (hx : (envOf name scope L a cd).kindOf x = some .globalImplicit := by rfl) (hd : (x == ("__debug__" : Str)) = false := by decide) :
    wpAny (model prog w) (A₀.deeper (envOf name scope L a cd)) (noteFrame (.ref e) (envOf name scope L a cd))
      (fun _ s₂ => wpAny (model prog w) (A₀.deeper (envOf name scope L a cd)) (setFlight (.ref e) none) (fun _ s₃ =>
        wpAny (model prog w) (A₀.deeper (envOf name scope L a cd)) (handleBy (.ref e) (envOf name scope L a cd) (.ExceptHandler (some (.Name x np)) (some n) (b₀ :: suite) pos :: rest)) Q E s₃) E s₂) E s' := by
  obtain ⟨B, a0, hB, hBG, hl, hfl⟩ := R
  have hL : B.get? L = none := by
    obtain ⟨_, ⟨L', _, hf, hn', _⟩, _⟩ := hfl.2.2.1
    obtain rfl : L = L' := Option.some.inj hf
    exact hn'
  refine wpAny_mono (with_dict (calm_noteFrame _ _) hdict (wpAny_looks_onW (Q := fun _ s₂ => ∃ h₄, s₂ = { s' with heap := h₄ } ∧ Heap.HeldW B (envOf name scope L a cd :: outer) e (.ref C) a0 L h₄ ∧ s'.heap.UpToSlots h₄) (E := E) (Around.frames_deeper K.stack) rfl hfl fun h₄ z1 z2 => ⟨h₄, rfl, z1, z2⟩)) (fun _ s₂ h₂ => ?_) fun _ _ h => h.1
  obtain ⟨⟨h₄, rfl, hheld₄, hsm₄⟩, hd₄⟩ := h₂
  refine wpAny_mono (with_dict (calm_setFlight _ _) hd₄ (wpAny_landsW (Q := fun _ s₃ => ∃ h₅, s₃ = { s' with heap := h₅ } ∧ Heap.FlyingW B (envOf name scope L a cd :: outer) e (.ref C) a0 h₅ ∧ h₄.UpToSlots h₅) (E := E) hheld₄ fun h₅ z1 z2 => ⟨h₅, rfl, z1, z2⟩)) (fun _ s₃ h₃ => ?_) fun _ _ h => h.1
  obtain ⟨⟨h₅, rfl, hheld, hsm₅'⟩, hd₅⟩ := h₃
  have hsm₅ := hsm₄.trans hsm₅'
  obtain ⟨g₅, T₅, F₅, K₅⟩ := kts_ground K F hBG hheld.1 (hsm.trans hsm₅)
  have X₅ : KF.In g₅ := XB.keeps K₅.stays
  have P₅ : TopRead p loose mg mb g₅ := topRead_of (TB.keeps K₅.stays)
  obtain ⟨ob, hob, hobc⟩ := hheld.there
  refine Classical.byContradiction fun hno9 => ?_
  obtain ⟨nm, q', N, bs, bm, hdct, sn, sub, ab, col, dd, k0, k1, k2, k3, k5, newId, hC, hbase, _⟩ := kts_cls X₅ q
  refine hno9 ?_
  clear hno9
  have hC₅ := F₅.keep _ _ hC
  refine wpAny_handleBy_cons (codeAny_handlers_test (name_K F₅ X₅ P₅ ex ?_ hk hx hd)) (by intro q; cases q)
  refine wpAny_excMatches_sub_self hC₅ hob hobc hbase (codeAny_handlers_suite_as ?_)
  refine wpAny_mono (with_dict (calm_setFlight _ _) hd₅ (lands_againW (Q := fun _ s₆ => ∃ h₆, s₆ = { s' with heap := h₆ } ∧ Heap.FlyingW B (envOf name scope L a cd :: outer) e (.ref C) a0 h₆ ∧ h₅.UpToSlots h₆) hheld fun h₆ z1 z2 => ⟨h₆, rfl, z1, z2⟩)) (fun _ s₆ h₆ => ?_) fun _ _ h => h.1
  obtain ⟨⟨h₆, rfl, hfl₆, hsm₆⟩, hd₆⟩ := h₆
  obtain ⟨g₆, T₆, F₆, K₆⟩ := kts_ground K F hBG hfl₆.1 ((hsm.trans hsm₅).trans hsm₆)
  obtain ⟨oe, ws, hoe, hoec, hoed, _⟩ := hfl₆.first
  have hoD : oe.dict = some D := by
    obtain ⟨o, h1, h2⟩ := hd₆
    rw [hoe] at h1
    cases h1
    exact h2
  have ne₆ : g₆.get? e = none := T₆.none_ _ (kts_fresh F hBG hfl₆.2.1 fun o ho hm => by
    obtain ⟨_, o', ho', hnf⟩ := K.frames.mem hm
    rw [ho] at ho'
    cases ho'
    obtain ⟨sl, hs⟩ := ((hsm.trans hsm₅).trans hsm₆) _ _ (F.keep _ _ ho) hnf
    rw [hoe] at hs
    cases hs
    exact hnf _ hoed)
  have Nl : News g₆ L h₆ news := fun q hq => ⟨hfl₆.1 _ _ (hl q hq).1, (fun z => by have := (hl q hq).1; rw [z, hL] at this; cases this), T₆.none_ _ (kts_none F.keep (hl q hq).2.1)⟩
  have N₆ := News.more F₆ Nl hoe (fun es n q => by rw [hoed] at q; cases q) ne₆
  have hno : notCls oe = true := by
    obtain ⟨_, _, dt, _⟩ := oe
    dsimp only at hoed
    subst hoed
    rfl
  refine stN F₆ N₆ (fun h₇ F₇ N₇ => ?_) hk hlo
  exact k h₇ g₆ _ oe (T0.trans T₆) F₇ N₇ hoec hno hoD K₆ (XB.keeps K₆.stays) (TB.keeps K₆.stays) (Dc.turn T₆)
end
end
section -- Ex4
set_option maxRecDepth 100000
open PySem.Spec
open Builtin Builtin.ObjectAttr
abbrev bmE : List Value := [.type "Exception", .type "BaseException", .type "object"]
section
variable {prog : Program} {w : World} {A : Around} {E : Value → Shared → Prop} {s : Shared} {K : Frag} {h₀ : Heap} {L x C W N : Addr} {m mN mW : Str → Option Value} {news : List (Addr × Obj)}
theorem store_in {D : Addr} {name : Str} {tk : Tok} {v : Value} {es : List DictEntry} {n : Nat} {Q : Fin → Shared → Prop} (hD : s.heap.get? D = some (dictOf es n)) (hk : es.any (·.refKey) = false) (hz : es.length ≤ 100)
    (h : ∀ h', (∀ b o, b ≠ D → s.heap.get? b = some o → h'.get? b = some o) → h'.get? D = some (dictOf (putL name (PyData.keyHash w.params name) (.str name s.toks) v es) (putN name es n)) → Q (.done (.ret .none)) { s with heap := h', toks := s.toks + 1 }) :
    wpAny (model prog w) A (storeInDict D (.str name tk) name v) Q E s := by
  have D' := Heap.get?_update_self (Obj.putName name (PyData.keyHash w.params name) (.str name s.toks) v) hD (by rw [putName_dict]; rfl)
  refine wpAny_bind (wpAny_pure (wpAny_bind ?_))
  unfold nsSet
  refine wpAny_bind (wpAny_bind (wpAny_askSetting (wpAny_pure (wpAny_bind (wpAny_mkText (wpAny_bind (wpAny_loadPart hD ?_)))))))
  dsimp only
  have c : (!es.toArray.any (·.key.isStr name) && es.toArray.any (·.refKey)) = false := by
    rw [← Array.any_toList, ← Array.any_toList]
    rw [hk, Bool.and_false]
  rw [aRefKeyMayBeTheName_at, c]
  refine wpAny_updatePart hD ?_
  refine wpAny_bind (wpAny_lookBehind D' (by
    rw [putName_dict]
    have hl : (putL name (PyData.keyHash w.params name) (.str name s.toks) v es).length ≤ es.length + 1 := by
      clear hD hk c D' h
      induction es with
      | nil => simp [putL]
      | cons e r ih =>
        unfold putL
        split
        · simp
        · have := ih (by simp only [List.length_cons] at hz; omega)
          simp only [List.length_cons]; omega
    exact pastItsLine_dict (by rw [List.size_toArray, sizeLine_eq]; omega)) ?_)
  refine wpAny_pure (h _ (fun b o hb e => ?_) ?_)
  · exact (Heap.get?_update_other _ _ (Ne.symm hb)).trans e
  · rw [← putName_dict]; exact D'
theorem osa_exc {ox : Obj} {od : Option Obj} {name : Str} {tk : Tok} {v : Value} {R : Result → Shared → Prop} {cd : ClassData} (X : K.In s.heap) (I : InstAt s.heap x ox C od) (hc : clsIn K C = some cd) (hm : cd.mro = .ref C :: .ref W :: bmE)
    (ht : findIn K (.ref C) name = some none)
    (h : wpAny (model prog w) A.in1 (storeInOwnDict (.ref x) (.ref C) (.str name tk) name v false)
      (fun fin s' => match fin with | .done f => R (.ok f) s' | .again c' => c'.quiet = true ∧ codeAny (model prog w) A c' R s') (fun e s' => R (.error e) s') s) :
    codeAny (model prog w) A (.call (.builtin "object.__setattr__") ⟨[.ref x, .str name tk, v], []⟩) R s := by
  have SF := PySem.F.store_Exception
  have sub : Looks (model prog w) s.heap (isInstance (.ref x) (.type "object")) true := I.type.andThen (looks_mroIn X (by unfold mroIn; rw [hc, Option.bind_some, hm]; rfl))
  refine codeAny_call_builtin SF.slot.plain SF.entry (@check_slot (model prog w) _ _ s "object.__setattr__" "object" "__setattr__" (.ref x) [.str name tk, v] [] _ SF.kind SF.split sub (SF.args (.ref x) (.str name tk) v) ?_)
  have hm' : Looks (model prog w) s.heap (mroOf (.ref C)) cd.mro := (looks_clsIn X hc).andThen .now
  rw [osa_eq, refuse_eq]
  refine wpAny_bind (wpAny_bind (I.type.here (wpAny_bind (hm'.here ?_))))
  rw [hm, refuseLoop_ref, refuseLoop_ref, SF.passes]
  refine wpAny_pure (wpAny_bind (I.type.here (wpAny_bind ((looks_findIn X ht).here (wpAny_bind (wpAny_pure ?_))))))
  exact h
/-- the first field of an exception: its dict is made -/
theorem exc_store1 {t : Addr} {name : Str} {v : Value} {Q : Unit → Shared → Prop} {cd : ClassData} (X₀ : K.In h₀) (hc : clsIn K C = some cd) (hm : cd.mro = .ref C :: .ref W :: bmE) (hh : cd.hasDict = true) (hs : findIn K (.ref C) "__setattr__" = some (some (.builtin "object.__setattr__")))
    (ht : findIn K (.ref C) name = some none) (F : Fr h₀ L s.heap m) (N : News h₀ L s.heap ((x, exc0 C t none) :: news)) (off : ∀ q ∈ news, q.1 ≠ x)
    (h : ∀ D h' tk tk', Fr h₀ L h' m → News h₀ L h' ((D, dictOf [⟨PyData.keyHash w.params name, .str name tk, v⟩] 1) :: (x, exc0 C t (some D)) :: news) → (∀ q ∈ ((x, exc0 C t none) :: news), q.1 < D) → Q () { s with heap := h', toks := tk' }) :
    wpAny (model prog w) A (setAttr (.ref x) name v) Q E s := by
  have X := X₀.keeps F.keep
  obtain ⟨hx, hxL, hx0⟩ := N _ (.head _)
  have I : InstAt s.heap x (exc0 C t none) C none := ⟨hx, rfl, rfl, trivial⟩
  refine set_plain X I hs ?_
  refine osa_exc (s := { s with toks := s.toks + 1 }) X I hc hm ht ?_
  have hxs : x < s.heap.objs.size := Heap.lt_size hx
  refine wpAny_bind (wpAny_pure (wpAny_bind (wpAny_bind (wpAny_loadPart hx (wpAny_bind (looks_clsIn X hc _ _ _ _ (fun _ _ e => e) ?_))))))
  rw [hh]
  dsimp only
  refine wpAny_bind (wpAny_alloc' ?_)
  have hx₁ : (s.heap.push { cls := .type "dict", data := .dict #[] }).get? x = some (exc0 C t none) := Heap.get?_push_of_some _ hx
  refine wpAny_bind (wpAny_update' hx₁ ?_)
  refine wpAny_pure (a := some s.heap.objs.size) ?_
  generalize hH : ((s.heap.push { cls := .type "dict", data := .dict #[] }).update x fun o => { o with dict := some s.heap.objs.size }) = H
  have hHD : H.get? s.heap.objs.size = some (dictOf [] 0) := by
    rw [← hH]
    exact (Heap.get?_update_other _ _ (Nat.ne_of_lt hxs)).trans (Heap.get?_push_at rfl rfl)
  have hHx : H.get? x = some (exc0 C t (some s.heap.objs.size)) := by
    rw [← hH]
    exact Heap.get?_update_self _ hx₁ rfl
  have hHo : ∀ b o, b ≠ x → s.heap.get? b = some o → H.get? b = some o := fun b o hb e => by
    rw [← hH]
    exact (Heap.get?_update_other _ _ (Ne.symm hb)).trans (Heap.get?_push_of_some _ e)
  refine store_in (s := { s with heap := H, toks := s.toks + 1 }) hHD rfl (by simp) fun h' hk' hD' => ?_
  have kept : ∀ b o, b ≠ x → s.heap.get? b = some o → h'.get? b = some o := fun b o hb e => hk' b o (Nat.ne_of_lt (Heap.lt_size e)) (hHo b o hb e)
  have hx' : h'.get? x = some (exc0 C t (some s.heap.objs.size)) := hk' x _ (Nat.ne_of_lt hxs) hHx
  have F' : Fr h₀ L h' m := fr_but F kept hxL hx0
  show Q () _
  refine h _ h' (s.toks + 1) _ F' (fun q hq => ?_) fun q hq => Heap.lt_size (N q hq).1
  rcases List.mem_cons.mp hq with rfl | hq
  · exact ⟨hD', Nat.ne_of_gt F.ns.lt, none_at_size F⟩
  rcases List.mem_cons.mp hq with rfl | hq
  · exact ⟨hx', hxL, hx0⟩
  · have Nq := N q (.tail _ hq)
    exact ⟨kept _ _ (off q hq) Nq.1, Nq.2⟩
/-- a further field of an exception -/
theorem exc_store2 {t D : Addr} {name : Str} {v : Value} {es : List DictEntry} {n : Nat} {Q : Unit → Shared → Prop} {cd : ClassData} (X₀ : K.In h₀) (hc : clsIn K C = some cd) (hm : cd.mro = .ref C :: .ref W :: bmE) (hh : cd.hasDict = true) (hs : findIn K (.ref C) "__setattr__" = some (some (.builtin "object.__setattr__")))
    (ht : findIn K (.ref C) name = some none) (F : Fr h₀ L s.heap m) (N : News h₀ L s.heap ((D, dictOf es n) :: (x, exc0 C t (some D)) :: news)) (off : ∀ q ∈ (x, exc0 C t (some D)) :: news, q.1 ≠ D) (hk : es.any (·.refKey) = false) (hz : es.length ≤ 100)
    (h : ∀ h' tk tk', Fr h₀ L h' m → News h₀ L h' ((D, dictOf (putL name (PyData.keyHash w.params name) (.str name tk) v es) (putN name es n)) :: (x, exc0 C t (some D)) :: news) → Q () { s with heap := h', toks := tk' }) :
    wpAny (model prog w) A (setAttr (.ref x) name v) Q E s := by
  have X := X₀.keeps F.keep
  obtain ⟨hD, hDL, hD0⟩ := N _ (.head _)
  obtain ⟨hx, hxL, hx0⟩ := N _ (.tail _ (.head _))
  have I : InstAt s.heap x (exc0 C t (some D)) C (some (dictOf es n)) := ⟨hx, rfl, rfl, hD⟩
  refine set_plain X I hs ?_
  refine osa_exc (s := { s with toks := s.toks + 1 }) X I hc hm ht ?_
  refine wpAny_bind (wpAny_pure (wpAny_bind (wpAny_bind (wpAny_loadPart hx (wpAny_bind (looks_clsIn X hc _ _ _ _ (fun _ _ e => e) ?_))))))
  rw [hh]
  refine wpAny_pure (a := some D) ?_
  refine store_in (s := { s with toks := s.toks + 1 }) hD hk hz fun h' hk' hD' => ?_
  have F' : Fr h₀ L h' m := fr_but F hk' hDL hD0
  show Q () _
  refine h h' (s.toks + 1) _ F' fun q hq => ?_
  rcases List.mem_cons.mp hq with rfl | hq
  · exact ⟨hD', hDL, hD0⟩
  · have Nq := N q (.tail _ hq)
    exact ⟨hk' _ _ (off q hq) Nq.1, Nq.2⟩
/-- Exception.__init__ on it: a new tuple of arguments -/
theorem exc_init {t : Addr} {rest : List Value} {newId initId : String} {Q : Value → Shared → Prop} (FB : ExcBaseFacts "Exception" newId initId bmE) (K : Cls2 s.heap C N W bmE newId mN mW) (F : Fr h₀ L s.heap m) (Nw : News h₀ L s.heap ((x, exc0 C t none) :: news)) (off : ∀ q ∈ news, q.1 ≠ x)
    (h : ∀ t' h', Fr h₀ L h' m → News h₀ L h' ((x, exc0 C t' none) :: news) → Q .none { s with heap := h' }) (hrest : rest.length ≤ sizeLine := by size_fits) :
    wpAny (model prog w) A (call (.builtin initId) (.ref x :: rest)) Q E s := by
  obtain ⟨hx, hxL, hx0⟩ := Nw _ (.head _)
  have hxs := Heap.lt_size hx
  obtain ⟨hp, g, d, tk, os⟩ := s
  dsimp only at K hx hxs F Nw h
  refine wpAny_call (codeAny_call_builtin FB.init.plain FB.initEntry (check_init2 FB K hx rfl ?_))
  wp_walk
  refine h hp.objs.size _ (fr_but F (I := x) (fun b o hb e => ?_) hxL hx0) fun q hq => ?_
  · rw [Heap.get?_update_other _ _ (Ne.symm hb)]
    exact Heap.get?_push_of_some _ e
  · rcases List.mem_cons.mp hq with rfl | hq
    · refine ⟨?_, hxL, hx0⟩
      rw [Heap.get?_update_self _ (Heap.get?_push_of_some _ hx) rfl]
      rfl
    · have Nq := Nw q (.tail _ hq)
      refine ⟨?_, Nq.2⟩
      rw [Heap.get?_update_other _ _ (Ne.symm (off q hq))]
      exact Heap.get?_push_of_some _ Nq.1
end
end
section -- Ex5
open PySem.Spec
set_option maxRecDepth 100000
theorem type_of_exc : typeOf (.type "Exception") = pure (.type "type") := by kernel_rfl
theorem ns50_ok {P : Params} : nsOkIn (Mine.hd.heap_1 P) 50 = true := by
  first | rfl | with_unfolding_all rfl | kernel_rfl
theorem ns37_ok {P : Params} : nsOkIn (Mine.hd.heap_1 P) 37 = true := by
  first | rfl | with_unfolding_all rfl | kernel_rfl
theorem ns50_init {P : Params} : nsIn (Mine.hd.heap_1 P) 50 "__init__" = some none := by first | rfl | with_unfolding_all rfl | kernel_rfl
theorem ns37_init {P : Params} : nsIn (Mine.hd.heap_1 P) 37 "__init__" = some (some (.ref 35)) := by first | rfl | with_unfolding_all rfl | kernel_rfl
theorem ns_some {K : Frag} {h : Heap} {N : Addr} {mg : Str → Option Value} {n : Str} {v : Value} (X : K.In h) (G : h.Ns N mg) (e : nsIn K N n = some (some v)) : mg n = some v := by
  obtain ⟨o, es, ep, ho, hd, _, hf⟩ := G
  unfold nsIn at e
  split at e
  · rename_i c d es' n' sl q
    have := X _ _ q
    rw [ho] at this
    cases this
    cases hd
    split at e
    · rename_i en he
      cases e
      rw [← hf]
      unfold nsFind findBy
      rw [← Array.find?_toList, he]; rfl
    · split at e <;> cases e
  · cases e
theorem mis_cls {P : Params} {h : Heap} (X : (Mine.hd.heap_1 P).In h) : Cls2 h 51 50 38 bmE "Exception.__new__" (h.nsMap 50) (h.nsMap 37) :=
  ⟨⟨_, _, _, _, _, _, _, _, _, _, _, _, _, X 51 _ rfl⟩, .of_isNs (isNs_of_in X ns50_ok), ⟨_, _, _, _, X 38 _ rfl, .of_isNs (isNs_of_in X ns37_ok)⟩⟩
theorem mis_init {P : Params} {h : Heap} (X : (Mine.hd.heap_1 P).In h) : h.nsMap 50 "__init__" = none ∧ h.nsMap 37 "__init__" = some (.ref 35) :=
  ⟨nsMap_none_of_in X ns50_ok ns50_init, ns_some X (.of_isNs (isNs_of_in X ns37_ok)) ns37_init⟩
theorem mis_fn {P : Params} {h : Heap} (X : (Mine.hd.heap_1 P).In h) : ∃ oI, h.get? 35 = some oI ∧ oI.cls = .type "function" := ⟨_, X 35 _ rfl, rfl⟩
theorem mis_in {P : Params} : ∃ cd, clsIn (Mine.hd.heap_1 P) 51 = some cd ∧ cd.mro = .ref 51 :: .ref 38 :: bmE ∧ cd.hasDict = true := ⟨_, rfl, rfl, rfl⟩
theorem mis_sa {P : Params} : findIn (Mine.hd.heap_1 P) (.ref 51) "__setattr__" = some (some (.builtin "object.__setattr__")) := by rfl
theorem mis_why {P : Params} : findIn (Mine.hd.heap_1 P) (.ref 51) "why" = some none := by rfl
theorem mis_at {P : Params} : findIn (Mine.hd.heap_1 P) (.ref 51) "at" = some none := by rfl
theorem mis_ga {P : Params} : findIn (Mine.hd.heap_1 P) (.ref 51) "__getattribute__" = some (some (.builtin "BaseException.__getattribute__")) := by rfl
theorem mis_gh {P : Params} : findIn (Mine.hd.heap_1 P) (.ref 51) "__getattr__" = some none := by rfl
end
section -- Ex6
set_option maxRecDepth 100000
open PySem.Spec
open Builtin Builtin.ObjectAttr
section
variable {prog : Program} {w : World} {A : Around} {E : Value → Shared → Prop} {s : Shared} {env : Env} {C W N : Addr}
/-- the exception is made, and flies -/
noncomputable def RaisePost (C W N : Addr) (E : Value → Shared → Prop) (v : Value) (s₁ : Shared) : Prop :=
  ∃ e t D newId mN mW, v = .ref e ∧ Cls2 s₁.heap C N W bmE newId mN mW ∧ s₁.heap.get? e = some (exc0 C t (some D)) ∧ E (.ref e) s₁
theorem raiseStmt_2 {x : Sem Value} {Q : Flow → Shared → Prop} (hh : A.handled = none)
    (h : wpAny (model prog w) A x (RaisePost C W N E) E s) :
    wpAny (model prog w) A (raiseStmt env (some x) none) Q E s := by
  unfold raiseStmt
  refine wpAny_bind (wpAny_mono h (fun v s₁ h₁ => ?_) fun _ _ x => x)
  obtain ⟨e, t, D, newId, mN, mW, rfl, ⟨⟨nm, q, bs, sn, sub, ab, col, dd, k0, k1, k2, k3, k5, hC⟩, hn, _⟩, he, hE⟩ := h₁
  have hcB : (Value.ref C :: .ref W :: bmE).contains (.type "BaseException") = true := by rfl
  obtain ⟨hp, g, d, tk, os⟩ := s₁
  repeat (first | with_reducible refine wpAny_loadPart_at he ?_ | with_reducible refine wpAny_loadPart_at hC ?_ | (with_reducible refine wpAny_isSubtype_exc hC ?_; rw [hcB]) | wp_step)
  exact wpAny_raiseNew_none hh hE
theorem Raise_2 {exc : Expr} {pos : Pos} {Q : Flow → Shared → Prop} (hh : A.handled = none)
    (h : wpAny (model prog w) A (eval exc env) (RaisePost C W N E) E s) :
    wpAny (model prog w) A (exec (.Raise (some exc) none pos) env) Q E s := by
  rw [arm_exec_Raise]
  refine wpAny_bind (wpAny_standAt (raiseStmt_2 (C := C) (W := W) (N := N) hh ?_))
  refine wpAny_bind (wpAny_mono h (fun v s₃ h₃ => wpAny_bind (wpAny_standAt (wpAny_pure h₃))) fun _ _ x => x)
end
theorem not_bad {k : Nat} {x y : Int} (hb : x < 0 ∨ 2 ^ k ≤ x ∨ y < 0 ∨ (k : Int) < y) (h1 : ¬ x < 0) (h2 : x.fdiv (2 ^ (k : Int).toNat) = 0) (h3 : ¬ y < 0) (h4 : ¬ y > (k : Int)) : False := by
  have e3 : ((2 : Int) ^ ((k : Int).toNat)) = ((2 ^ k : Nat) : Int) := by simp
  have e4 : ((2 : Int) ^ k) = ((2 ^ k : Nat) : Int) := by simp
  obtain ⟨n, rfl⟩ := Int.eq_ofNat_of_zero_le (by omega : 0 ≤ x)
  rw [e3, fdiv_nat] at h2
  have h5 : n / 2 ^ k = 0 := by omega
  have hp : 0 < 2 ^ k := Nat.pos_of_ne_zero (by simp)
  have h6 : n < 2 ^ k := by
    rcases Nat.lt_or_ge n (2 ^ k) with h | h
    · exact h
    · have := (Nat.div_pos h hp)
      omega
  rw [e4] at hb
  generalize 2 ^ k = M at hb h6
  omega
/-- a def that raises Misused: what leaves it -/
noncomputable def ConR (w : World) (p : Program) (loose : List Str) (mean : ExcName → Option Value) (mg mb : Str → Option Value) (f : Addr) (args : List Value) (fr us : Nat) (news : List (Addr × Obj)) : Prop :=
  ∀ (dp un : Nat) (gd : Option (List Code)) (cn : Str) (cs : Scope) (a : Addr) (ccd : Value) (cl : List (Str × Addr)) (outer : List Env) (A₀ : Around) (base h₀ : Heap) (L : Addr) (m : Str → Option Value) (s : Shared)
    (Q E : Value → Shared → Prop),
    Below A₀ base outer h₀ → Fr h₀ L s.heap m → (Mine.hd.heap_1 w.params).In h₀ → News h₀ L s.heap news → Top p loose mean mg mb h₀ → cs.kind = .function → dp + fr < recursionLimit → un + us < cLine →
    (∀ e D x1 x2 t1 t2 tw n v2 G h' tk', Fr h₀ L G m → RaisedSN base G (envX cn cs L a ccd cl :: outer) e (.ref 51) ((D, dictOf [⟨x1, .str (Str.ofString "why") t1, .str (Str.ofString "no such prefix") tw⟩, ⟨x2, .str (Str.ofString "at") t2, v2⟩] n) :: news) h' →
      G.UpToSlots h' → HasDict h' e D → (∀ q ∈ news, q.1 ≠ D) → E (.ref e) { s with heap := h', toks := tk' }) →
    wpAny (model prog w) (ktrTop dp un gd cn cs L a ccd cl outer) (call (.ref f) args) Q E s
end
section -- Ex7
set_option maxRecDepth 100000
open PySem.Spec
section
variable {prog : Program} {w : World} {A₀ A : Around} {s : Shared} {base h₀ : Heap} {env : Env} {L : Addr} {m : Str → Option Value} {news : List (Addr × Obj)} {K : Frag} {p : Program} {loose : List Str} {mean : ExcName → Option Value} {mg mb : Str → Option Value}
    {R : Result → Shared → Prop} {name qual : Str} {params : Arguments} {body : List Stmt} {scope : Scope} {dV kV doc pm cdv ct oc : Value} {an od : Option Addr} {osl : Array (Option Value)} {f : Addr} {args : Args} {binds : List (Str × Value)}
/-- a def that catches, called from the first frame -/
theorem code_defT (B : Below A₀ base [] h₀) (F : Fr h₀ L s.heap m) (X₀ : K.In h₀) (N : News h₀ L s.heap news) (T : Top p loose mean mg mb h₀) (hA : A.frames = some [env]) (hf : env.frame = some L) (hke : env.scope.kind = .function)
    (ho : K.lookup f = some ⟨oc, od, .func (fnOf name qual params body scope dV kV doc pm an cdv ct), osl⟩) (hcd : codeIn K cdv qual = true) (hroom : A.depth < recursionLimit)
    (hbind : BindsTo s (fnOf name qual params body scope dV kV doc pm an cdv ct) args binds) (hloc : ∀ y ∈ binds, scope.names.lookup y.1 = some .local)
    (h : ∀ g L' h₁, Fr h₀ L g m → Fr g L' h₁ (fun y => binds.reverse.lookup y) → News g L' h₁ news → Below A base [env] g → K.In g → Top p loose mean mg mb g → KtsDicts ([env].filterMap (·.frame)) g →
      wpAny (model prog w) (A.deeper (envOf qual scope L' f cdv)) (execs body (envOf qual scope L' f cdv))
        (fun fl s' => LeaveS0 ([env].filterMap (·.frame)) h₀ L m g R (match fl with | .ret v => v | _ => .none) s')
        (fun e s' => wpAny (model prog w) (A.deeper (envOf qual scope L' f cdv)) (leaving (envOf qual scope L' f cdv) e) (fun _ s'' => R (.error e) s'') (fun e' s'' => R (.error e') s'') s')
        { s with heap := h₁, toks := s.toks + binds.length })
    (hco : scope.isCoroutine = false) (hgen : scope.isGenerator = false) (hk : scope.kind = .function)
    (hcell : ∀ x ∈ scope.names, x.2 ≠ .cell) : codeAny (model prog w) A (.call (.ref f) args) R s := by
  have X := X₀.keeps F.keep
  obtain ⟨FG, BG, st, _⟩ := groundX (R := R) B F N hA hf hke
  have hfs : ∀ b, b ∈ [env].filterMap (·.frame) ↔ b = L := fun b => by simp [hf]
  have nL₀ : h₀.get? L = none := kts_self F
  refine codeAny_call_def (fd := fnOf name qual params body scope dV kV doc pm an cdv ct) (body := body) (binds := binds) hroom (X _ _ ho) rfl (T.nolimit.keeps F.keep) (codeRec_of X hcd) rfl hbind hcell hloc (fun h₁ hns hk₁ => ?_) hco hgen hk
  obtain ⟨oL, es, ep, hLg, hLd, hLk, hLf⟩ := FG.ns
  refine wpAny_mono (h _ s.heap.objs.size h₁ FG ⟨hns, fun b o e => hk₁ b o (of_hideAll _ e), Nat.le_of_eq (hideAll_size _ _)⟩
    (fun p hp => ⟨hk₁ _ _ (N p hp).1, Nat.ne_of_lt (Heap.lt_size (N p hp).1), hideAll_none _ (List.mem_map_of_mem hp)⟩) BG (X₀.keeps st) (T.keeps st) (fun b hb => by
      obtain rfl := (hfs b).mp hb
      exact ⟨oL, es, ep, hLg, hLd⟩)) (fun fl s' hl => ?_) fun _ _ y => y
  obtain ⟨g', L', m', news', T', F', N', k⟩ := hl
  obtain ⟨sl, hs⟩ := T'.up hLg
  refine k ⟨⟨_, es, ep, F'.keep _ _ hs, hLd, hLk, hLf⟩, fun b o e => F'.keep b o (T'.other b o (st b o e) (fun q => by
    rw [(hfs b).mp q, nL₀] at e
    cases e)), F.above⟩ fun p hp => ⟨(N' p hp).1, fun q => ?_, ?_⟩
  · have := (N' p hp).2.2; rw [q, hs] at this; cases this
  · cases q : h₀.get? p.1 with
    | none => rfl
    | some o =>
      obtain ⟨sl', hs'⟩ := T'.up (st _ _ q)
      have := (N' p hp).2.2
      rw [hs'] at this
      cases this
end
/-- a def called from the first frame -/
noncomputable def ConT (w : World) (p : Program) (loose : List Str) (mean : ExcName → Option Value) (mg mb : Str → Option Value) (f : Addr) (args : List Value) (fr us : Nat)
    (news : List (Addr × Obj)) (Out : Value → List (Addr × Obj) → Prop) : Prop :=
  ∀ (dp un : Nat) (gd : Option (List Code)) (cn : Str) (cs : Scope) (a : Addr) (ccd : Value) (cl : List (Str × Addr)) (A₀ : Around) (h₀ : Heap) (L : Addr) (m : Str → Option Value) (s : Shared)
    (Q E : Value → Shared → Prop),
    Below A₀ h₀ [] h₀ → Fr h₀ L s.heap m → (Mine.hd.heap_1 w.params).In h₀ → News h₀ L s.heap news → Top p loose mean mg mb h₀ → cs.kind = .function → dp + fr < recursionLimit → un + us < cLine →
    (∀ r news' h' tk', Fr h₀ L h' m → News h₀ L h' news' → Out r news' → Q r { s with heap := h', toks := tk' }) →
    wpAny (model prog w) (ktrTop dp un gd cn cs L a ccd cl []) (call (.ref f) args) Q E s
theorem conT_use {w : World} {p : Program} {loose : List Str} {mean : ExcName → Option Value} {mg mb : Str → Option Value} {f : Addr} {args : List Value} {fr us : Nat} {news : List (Addr × Obj)} {Out : Value → List (Addr × Obj) → Prop}
    {dp un : Nat} {gd : Option (List Code)} {cn : Str} {cs : Scope} {a : Addr} {ccd : Value} {cl : List (Str × Addr)} {A₀ : Around} {h₀ : Heap} {L : Addr} {m : Str → Option Value} {s : Shared} {Q E : Value → Shared → Prop}
    (C : ConT w p loose mean mg mb f args fr us news Out) (B : Below A₀ h₀ [] h₀) (F : Fr h₀ L s.heap m) (X : (Mine.hd.heap_1 w.params).In h₀) (N : News h₀ L s.heap news) (T : Top p loose mean mg mb h₀) (hk : cs.kind = .function)
    (hd : dp + fr < recursionLimit) (hu : un + us < cLine) (ret : ∀ r news' h' tk', Fr h₀ L h' m → News h₀ L h' news' → Out r news' → Q r { s with heap := h', toks := tk' }) :
    wpAny (model prog w) (ktrTop dp un gd cn cs L a ccd cl []) (call (.ref f) args) Q E s :=
  C dp un gd cn cs a ccd cl A₀ h₀ L m s Q E B F X N T hk hd hu ret
end
section -- Ex8
set_option maxRecDepth 100000
open PySem.Spec
open Builtin Builtin.ObjectAttr
section
variable {prog : Program} {w : World} {A : Around} {E : Value → Shared → Prop} {K : Frag} {x C W N : Addr} {ox : Obj} {od : Option Obj} {cd : ClassData} {mN mW : Str → Option Value} {newId : String}
  {h : Heap} {g : Array GenState} {d : Drawn} {t : Nat} {os : OsState} {name : Str} {v : Value}
theorem exc_ga_call {tk : Tok} {R : Result → Shared → Prop} (X : K.In h) (I : InstAt h x ox C od) (hc : clsIn K C = some cd) (hm : cd.mro = .ref C :: .ref W :: bmE) (hf : findObj K C od name = some (.value v))
    (hq : R (.ok (.ret v)) ⟨h, g, d, t, os⟩) : codeAny (model prog w) A (.call (.builtin "BaseException.__getattribute__") ⟨[.ref x, .str name tk], []⟩) R ⟨h, g, d, t, os⟩ := by
  have hk : builtinKind "BaseException.__getattribute__" = some .slot := by decide +kernel
  have hsplit : splitId "BaseException.__getattribute__" = some ("BaseException", "__getattribute__") := by decide +kernel
  have sub : Looks (model prog w) h (isInstance (.ref x) (.type "BaseException")) true := I.type.andThen (looks_mroIn X (by unfold mroIn; rw [hc, Option.bind_some, hm]; rfl))
  have L0 := I.type (M := model prog w)
  have L1 := looks_find (M := model prog w) X I hf
  refine codeAny_call_builtin PySem.F.attr_Exception.ga.plain PySem.F.entry_bexc_ga (@check_slot (model prog w) _ _ ⟨h, g, d, t, os⟩ "BaseException.__getattribute__" "BaseException" "__getattribute__" (.ref x) [.str name tk] [] _ hk hsplit sub (PySem.F.args_bexc_ga (.ref x) (.str name tk)) ?_)
  unfold Builtin.«object.__getattribute__»
  refine wpAny_bind (wpAny_of_eq (a := (.ref x, [.str name tk])) (by rfl) ?_)
  dsimp only
  refine wpAny_bind (wpAny_of_eq (a := name) (by rfl) ?_)
  refine wpAny_bind (L0.at (wpAny_bind (L1.at ?_)))
  exact wpAny_pure hq
theorem exc_get {expr : Bool} {Q : Value → Shared → Prop} (X : K.In h) (I : InstAt h x ox C od) (hc : clsIn K C = some cd) (hm : cd.mro = .ref C :: .ref W :: bmE) (hga : findIn K (.ref C) "__getattribute__" = some (some (.builtin "BaseException.__getattribute__")))
    (hgh : findIn K (.ref C) "__getattr__" = some none) (hf : findObj K C od name = some (.value v)) (hh : handedIn v = true) (hq : Q v ⟨h, g, d, t + 1, os⟩) : wpAny (model prog w) A (getAttr (.ref x) name expr) Q E ⟨h, g, d, t, os⟩ := by
  have L0 := I.type (M := model prog w)
  have L1 := looks_findIn (M := model prog w) X hga
  have L2 := looks_findIn (M := model prog w) X hgh
  have f3 := PySem.F.attr_Exception.ga.bind (.ref x)
  have hx0 : (expr && onTheHeap (Value.builtin "BaseException.__getattribute__")) = false := by cases expr <;> rfl
  have hx2 : (Value.builtin "BaseException.__getattribute__" == Value.builtin "object.__getattribute__") = false := by decide +kernel
  have hx1 : (onTheHeap (Value.ref C) && Value.builtin "BaseException.__getattribute__" == Value.builtin "object.__getattribute__") = false := by rw [hx2]; rfl
  unfold getAttr getAttrBy
  refine wpAny_bind (wpAny_mkText (wpAny_holding (wpAny_bind (L0.at (wpAny_bind (L1.at ?_))))))
  dsimp only
  rw [hx1, if_neg (by decide)]
  unfold getAttrByItsOwn hookBefore
  rw [if_pos (show onTheHeap (Value.ref C) = true from rfl)]
  refine wpAny_bind (L2.at ?_)
  dsimp only [Option.toList]
  unfold callGetattribute
  rw [hx0]
  repeat (any_goals (first | assumption | wp_step))
  refine exc_ga_call X I hc hm hf ?_
  repeat (any_goals (first | assumption | wp_step))
  show wpAny _ _ (handedOut v) _ _ _
  rw [handedOut_of hh]
  exact wpAny_pure hq
end
end
section -- Rul3
section
variable {prog : Program} {w : World} {A : Around} {E : Value → Shared → Prop} {s : Shared} {h₀ : Heap} {L : Addr} {news n₁ : List (Addr × Obj)} {Q : Value → Shared → Prop}
theorem add_list {l b : Addr} {vs ws : Array Value} {n k : Nat} {m : Str → Option Value} (F : Fr h₀ L s.heap m) (N : News h₀ L s.heap news) (hl : (l, listOf vs n) ∈ news) (hb : (b, listOf ws k) ∈ news) (hz : vs.size + ws.size ≤ 100)
    (h : ∀ D h', Fr h₀ L h' m → News h₀ L h' ((D, listOf (vs ++ ws) 0) :: news) → (∀ q ∈ news, q.1 < D) → Q (.ref D) { s with heap := h' }) : wpAny (model prog w) A (binaryOp .Add (.ref l) (.ref b)) Q E s := by
  have e : (vs.toList ++ ws.toList).toArray = vs ++ ws := by simp
  have e1 := Array.length_toList (xs := vs)
  have e2 := Array.length_toList (xs := ws)
  refine kmk_add_lit F N ⟨_, (N _ hl).1, rfl, n, rfl⟩ ⟨_, (N _ hb).1, rfl, k, rfl⟩ rfl (fun D h' F' N' lt => ?_) (by rw [sizeLine_eq]; omega)
  rw [e] at N'
  exact h D h' F' N' lt
end
end
section -- Rul4
/-- addresses that fall -/
noncomputable def Dec : List (Addr × Obj) → Prop
  | [] => True
  | [_] => True
  | a :: b :: r => b.1 < a.1 ∧ Dec (b :: r)
theorem dec_lt : ∀ {l : List (Addr × Obj)} {a : Addr × Obj}, Dec (a :: l) → ∀ q ∈ l, q.1 < a.1
  | [], _, _, _, h => nomatch h
  | b :: r, a, hd, q, hq => by
    rcases List.mem_cons.mp hq with rfl | hq
    · exact hd.1
    · exact Nat.lt_trans (dec_lt hd.2 q hq) hd.1
theorem dec_tail : ∀ {l : List (Addr × Obj)} {a : Addr × Obj}, Dec (a :: l) → Dec l
  | [], _, _ => trivial
  | _ :: _, _, h => h.2
theorem nd_dec : ∀ {l : List (Addr × Obj)}, Dec l → Nd l
  | [], _ => List.nodup_nil
  | _ :: _, h => (nd_dec (dec_tail h)).lt (dec_lt h)
theorem news_nd {h₀ h : Heap} {L : Addr} {l : List (Addr × Obj)} (N : News h₀ L h l) (d : Dec l) : News h₀ L h l ∧ Nd l := ⟨N, nd_dec d⟩
theorem split_cells {h₀ h : Heap} {L : Addr} {l : List (Addr × Obj)} (n : Nat) (N : News h₀ L h l) (nd : Nd l) : ∃ fx, fx = l.take n ∧ News h₀ L h (l.drop n ++ fx) ∧ Nd (l.drop n ++ fx) := by
  refine ⟨_, rfl, ?_, ?_⟩
  · exact news_perm N (List.perm_append_comm.trans (by rw [List.take_append_drop])).symm
  · exact nd.perm (List.perm_append_comm.trans (by rw [List.take_append_drop])).symm
theorem nd_same {l l' : List (Addr × Obj)} (nd : Nd l') (e : l'.map (·.1) = l.map (·.1)) : Nd l := by
  unfold Nd at nd ⊢
  rwa [← e]
theorem news_nd2 {h₀ h : Heap} {L : Addr} {l l' : List (Addr × Obj)} (_ : News h₀ L h l) (nd : Nd l') (e : l'.map (·.1) = l.map (·.1)) : Nd l := nd_same nd e
theorem news_tl {h₀ h : Heap} {L : Addr} {a : Addr × Obj} {l : List (Addr × Obj)} (N : News h₀ L h (a :: l)) : News h₀ L h l := fun q hq => N q (.tail _ hq)
theorem perm3 {α : Type} (l : List α) : (l.take 1 ++ ((l.drop 5).take 3 ++ ((l.drop 2).take 1 ++ ((l.drop 1).take 1 ++ ((l.drop 3).take 2 ++ l.drop 8))))).Perm l := by
  match l with
  | [] => simp
  | [a] => simp
  | [a, b] => simp
  | [a, b, c] => exact (List.Perm.swap b c []).cons a
  | [a, b, c, d] => exact (List.Perm.swap b c [d]).cons a
  | [a, b, c, d, e] => exact (List.Perm.swap b c [d, e]).cons a
  | a :: b :: c :: d :: e :: r =>
    show (a :: (r.take 3 ++ (c :: b :: d :: e :: r.drop 3))).Perm (a :: b :: c :: d :: e :: r)
    refine List.Perm.cons a ?_
    refine List.perm_append_comm.trans ?_
    show (c :: b :: d :: e :: (r.drop 3 ++ r.take 3)).Perm _
    refine (List.Perm.swap b c _).trans (List.Perm.cons b (List.Perm.cons c (List.Perm.cons d (List.Perm.cons e ?_))))
    exact List.perm_append_comm.trans (by rw [List.take_append_drop])
theorem split3 {h₀ h : Heap} {L : Addr} {l : List (Addr × Obj)} (N : News h₀ L h l) (nd : Nd l) : ∃ fx, fx = (l.drop 3).take 2 ++ l.drop 8 ∧ News h₀ L h (l.take 1 ++ ((l.drop 5).take 3 ++ ((l.drop 2).take 1 ++ ((l.drop 1).take 1 ++ fx)))) ∧ Nd (l.take 1 ++ ((l.drop 5).take 3 ++ ((l.drop 2).take 1 ++ ((l.drop 1).take 1 ++ fx)))) :=
  ⟨_, rfl, news_perm N (perm3 l).symm, nd.perm (perm3 l).symm⟩
end
section -- Rul5
open PyProof.Rows.LCg
theorem pyIter_it {prog : Program} {w : World} {A : Around} {E : Value → Shared → Prop} {s : Shared} {it : Addr} {x left step : Int} {Q : Value → Shared → Prop} (hit : s.heap.get? it = some (itG x left step)) (h : Q (.ref it) s) : wpAny (model prog w) A (pyIter (.ref it)) Q E s := by
  have hT : s.TypeIs (.ref it) "range_iterator" := ⟨_, hit, rfl⟩
  refine wpAny_pyIter_slot hT F.slot_range_iterator_iter (wpAny_call_entry F.slot_range_iterator_iter hT F.entry_range_iterator_iter ?_ (F.args_range_iterator_iter_1 _))
  show wpAny _ _ (ret (.ref it)) _ _ s
  exact wpAny_pure ⟨_, rfl, "range_iterator", _, hT, F.slot_range_iterator_next.lookup, h⟩
section
variable {prog : Program} {w : World} {A : Around} {E : Value → Shared → Prop} {s : Shared} {env : Env} {h₀ : Heap} {L : Addr} {m : Str → Option Value}
inductive SrcR (prog : Program) (w : World) (A : Around) (h₀ : Heap) (L : Addr) (m : Str → Option Value) (env : Env) (elt : Expr) (x : Str) (scope : Scope) (cl : List (Str × Addr)) (Q : Value → Shared → Prop) (xv : Value) (s₁ : Shared) : Prop
  | mk (ax : Addr) (n : Nat) (t1 t2 t3 : Tok) (news : List (Addr × Obj)) (J : Nat → List Value → List (Addr × Obj) → Prop) (f0 : xv = .ref ax) (f1 : A.handled = none) (f2 : Fr h₀ L s₁.heap m) (f3 : News h₀ L s₁.heap news) (f4 : IsRange s₁.heap ax 0 (n : Int) 1 t1 t2 t3) (f5 : Builtin.Range.small 0 (n : Int) 1 = true) (f6 : Builtin.Range.rangeSize 0 (n : Int) 1 = (n : Int)) (f7 : n ≤ sizeLine) (f8 : J 0 [] []) (f9 : (∀ i ys add, J i ys add → i < n →
      ∀ I oI C oC D m₂ h tk ti (E' : Value → Shared → Prop), NsObj oC m₂ → m₂ x = some (.int (i : Int) ti) → Fr h₀ L h m → News h₀ L h ((I, oI) :: (C, oC) :: (D, lst ys) :: (add ++ news)) → (∀ q ∈ (I, oI) :: (C, oC) :: (D, lst ys) :: (add ++ news), q.1 < h.objs.size) →
        wpAny (model prog w) A (eval elt (compEnvC scope cl C env)) (End3 h₀ L m s₁ I oI C oC D ys news add (J (i + 1))) E' { s₁ with heap := h, toks := tk })) (f10 : (∀ D h tk ys add, J n ys add → ys.length = n → Fr h₀ L h m → News h₀ L h ((D, lst ys) :: (add ++ news)) → (∀ q ∈ add ++ news, q.1 ≠ D) → Q (.ref D) { s₁ with heap := h, toks := tk })) : SrcR prog w A h₀ L m env elt x scope cl Q xv s₁
theorem ListComp_R {elt iter : Expr} {x : Str} {px : Pos} {scope : Scope} {cl : List (Str × Addr)} {pos : Pos} {Q : Value → Shared → Prop} (_F₀ : Fr h₀ L s.heap m)
    (hclos : closureFor scope env = pure cl) (hcell : ∀ y ∈ scope.names, y.2 ≠ .cell) (hkind : scope.kind = .function)
    (hnames : ∀ y ∈ scope.names, y.2 = .local → scope.names.lookup y.1 = some .local) (hx : scope.names.lookup x = some .local)
    (h : wpAny (model prog w) A (eval iter env) (SrcR prog w A h₀ L m env elt x scope cl Q) E s)
    (hs : ∀ x, foldedSetIterable iter env x = pure x := by intro _; rfl) :
    wpAny (model prog w) A (eval (.ListComp elt [⟨.Name x px, iter, [], 0⟩] scope pos) env) Q E s := by
  rw [eval_ListComp]
  refine wpAny_comprehension_free (use := none) rfl hs hclos hkind hnames (wpAny_mono h (fun xv s₁ h₁ => ?_) fun _ _ e => e)
  obtain ⟨ax, n, t1, t2, t3, news, J, rfl, hh, F, N, hR, hsm, hrz, hsz, J0, turn, done⟩ := h₁
  refine iter_range F N hR hsm fun I h₁ F₁ N₁ lt₁ => ?_
  rw [hrz] at N₁
  obtain ⟨oI, hO⟩ : ∃ oI, oI = itG 0 (n : Int) 1 := ⟨_, rfl⟩
  rw [← hO] at N₁
  refine wpAny_newObj_type (wpAny_newFunctionEnv hcell (by intro y hy; simp at hy) (fun h₂ hns₂ hsb₂ => ?_) hkind)
  dsimp only at hns₂ hsb₂ ⊢
  generalize hH2 : h₁.push { cls := .type "list", dict := none, data := .seq ([] : List Value).toArray } = H2 at hns₂ hsb₂ ⊢
  have hC : H2.objs.size = h₁.objs.size + 1 := by rw [← hH2, Heap.size_push]
  generalize hDd : h₁.objs.size = D at hC hH2 ⊢
  generalize hCd : H2.objs.size = C at hC hns₂ hsb₂ ⊢
  have old : ∀ b o, h₁.get? b = some o → b ≠ C ∧ b ≠ D ∧ h₂.get? b = some o := fun b o e => by
    have hb : b < h₁.objs.size := Heap.lt_size e
    have hb1 : b ≠ C := by rw [hC, ← hDd]; exact Nat.ne_of_lt (Nat.lt_succ_of_lt hb)
    have hb2 : b ≠ D := by rw [← hDd]; exact Nat.ne_of_lt hb
    exact ⟨hb1, hb2, hsb₂.extBut b o hb1 (Heap.get?_push_of_some _ (hH2 ▸ Heap.get?_push_of_some _ e))⟩
  have hDC : D ≠ C := by rw [hC]; exact Nat.ne_of_lt (Nat.lt_succ_self _)
  have hacc : h₂.get? D = some (lst []) := hsb₂.extBut _ _ hDC (Heap.get?_push_of_some _ (by rw [← hH2, ← hDd]; exact Heap.get?_push_size _ rfl))
  have fresh₀ : ∀ a, D ≤ a → h₀.get? a = none := fun a ha => by
    cases e : h₀.get? a with
    | none => rfl
    | some o' =>
      have := Heap.lt_size (F₁.keep a o' e)
      rw [hDd] at this
      exact absurd this (Nat.not_lt.mpr ha)
  have hD₀ : h₀.get? D = none := fresh₀ _ (Nat.le_refl _)
  have hC₀ : h₀.get? C = none := fresh₀ _ (by rw [hC]; exact Nat.le_succ _)
  have hLlt : L < D := by rw [← hDd]; exact F₁.ns.lt
  have hDL : D ≠ L := Ne.symm (Nat.ne_of_lt hLlt)
  have hCL : C ≠ L := by rw [hC]; exact Ne.symm (Nat.ne_of_lt (Nat.lt_succ_of_lt hLlt))
  obtain ⟨oC, heC, hoC⟩ := ns_obj hns₂
  have F₂ : Fr h₀ L h₂ m := F₁.keeps fun b o e => (old b o e).2.2
  have N₂ : News h₀ L h₂ ((I, oI) :: (C, oC) :: (D, lst []) :: ([] ++ news)) := by
    intro p hp
    rcases List.mem_cons.mp hp with rfl | hp
    · have z := N₁ _ (.head _)
      exact ⟨(old _ _ z.1).2.2, z.2⟩
    rcases List.mem_cons.mp hp with rfl | hp
    · exact ⟨heC, hCL, hC₀⟩
    rcases List.mem_cons.mp hp with rfl | hp
    · exact ⟨hacc, hDL, hD₀⟩
    · have z := N₁ p (.tail _ hp)
      exact ⟨(old _ _ z.1).2.2, z.2⟩
  have hI := old _ _ (N₁ _ (.head _)).1
  have off₂ : ∀ q ∈ ([] : List (Addr × Obj)) ++ news, q.1 ≠ I ∧ q.1 ≠ C ∧ q.1 ≠ D := fun q hq => by
    have z := old _ _ (N₁ q (.tail _ hq)).1
    exact ⟨Nat.ne_of_lt (lt₁ q hq), z.1, z.2.1⟩
  have loop : ∀ s₃ : Shared, (∃ tk, s₃ = { s₁ with heap := h₂, toks := tk }) →
      codeAny (model prog w) A (.compLoop (.ListComp elt [⟨.Name x px, iter, [], 0⟩] scope pos) 0 (.ref I) (.ref D) (compEnvC scope cl C env)) (compPost (model prog w) A E none Q (.ref D) C) s₃ := by
    rintro s₃ ⟨tk₃, rfl⟩
    refine kcp_loop (CpSt s₁ h₀ L m I C D news J (fun oI i => oI = itG (i : Int) ((n : Int) - (i : Int)) 1) n) ?_ (n + 1) ⟨h₂, _, 0, [], [], oI, oC, _, rfl, Nat.zero_le _, rfl, rfl, by rw [hO]; simp, F₂, N₂, hoC, off₂, J0⟩
    rintro k s' ⟨h, tk, i, ys, add, oI, oC, mC, rfl, hi, rfl, hyl, hO, F, N, hoC, off, hJ⟩
    have offI : ∀ q ∈ (C, oC) :: (D, lst ys) :: (add ++ news), q.1 ≠ I := fun q hq => by
      rcases List.mem_cons.mp hq with rfl | hq
      · exact Ne.symm hI.1
      rcases List.mem_cons.mp hq with rfl | hq
      · exact Ne.symm hI.2.1
      · exact (off q hq).1
    subst hO
    by_cases hlt : i < n
    · have tn := turn i ys add hJ hlt
      refine next_range F N offI (by omega) fun ti h₃ tk₃ F₃ N₃ => ?_
      refine wpAny_of_eq (a := ()) rfl ?_
      obtain ⟨oI', hO'⟩ : ∃ oI', oI' = itG ((i : Int) + 1) ((n : Int) - (i : Int) - 1) 1 := ⟨_, rfl⟩
      rw [← hO'] at N₃
      have hC3 := (N₃ _ (.tail _ (.head _))).1
      have hn₄ : h₃.Ns C mC := hoC.ns hC3
      refine wpAny_assign_Name (wpAny_storeName_local (lookup_relabel_local hx) hn₄ (fun h₇ hn₇ hs₇ => ?_) (by simp [compEnvC, relabel, hkind]))
      have up₇ : ∀ b o, b ≠ C → h₃.get? b = some o → h₇.get? b = some o := fun b o hb e => hs₇.extBut b o hb e
      obtain ⟨oC', heC', hoC'⟩ := ns_obj hn₇
      have F₇ : Fr h₀ L h₇ m := F₃.change hs₇ hCL hC₀
      have N₇ : News h₀ L h₇ ((I, oI') :: (C, oC') :: (D, lst ys) :: (add ++ news)) := fun p hp => by
        rcases List.mem_cons.mp hp with rfl | hp
        · have z := N₃ _ (.head _)
          exact ⟨up₇ _ _ hI.1 z.1, z.2⟩
        rcases List.mem_cons.mp hp with rfl | hp
        · exact ⟨heC', hCL, hC₀⟩
        rcases List.mem_cons.mp hp with rfl | hp
        · have z := N₃ _ (.tail _ (.tail _ (.head _)))
          exact ⟨up₇ _ _ hDC z.1, z.2⟩
        · have z := N₃ p (.tail _ (.tail _ (.tail _ hp)))
          exact ⟨up₇ _ _ (off p hp).2.1 z.1, z.2⟩
      refine wpAny_mono (tn I oI' C oC' D _ h₇ _ ti _ hoC' (by simp) F₇ N₇ fun q hq => Heap.lt_size (N₇ q hq).1) (fun u s₈ h₈ => ?_) fun _ _ e => e
      obtain ⟨h₈, tk₈, add', rfl, F₈, N₈, off₈, hJ'⟩ := h₈
      have zD := (N₈ _ (.tail _ (.tail _ (.head _)))).1
      refine append_at (hsz := by show ys.toArray.size ≤ sizeLine; rw [List.size_toArray, hyl]; exact Nat.le_trans hi hsz) zD fun h₉ hs₉ hD₉ => ?_
      have off' : ∀ q ∈ add' ++ news, q.1 ≠ I ∧ q.1 ≠ C ∧ q.1 ≠ D := fun q hq => by
        rcases List.mem_append.mp hq with hq | hq
        · rcases off₈ q hq with z | z
          · exact off q (List.mem_append_left _ z)
          · exact z
        · exact off q (List.mem_append_right _ hq)
      refine ⟨n + 1 - (i + 1), by omega, h₉, tk₈, i + 1, ys ++ [u], add', oI', oC', _, rfl, hlt, rfl, by rw [List.length_append, List.length_singleton, hyl], by rw [hO', show (((i + 1 : Nat) : Int)) = (i : Int) + 1 by simp, show (n : Int) - ((i : Int) + 1) = (n : Int) - (i : Int) - 1 by omega], F₈.change hs₉ hDL hD₀, fun p hp => ?_, hoC', off', hJ'⟩
      rcases List.mem_cons.mp hp with rfl | hp
      · have z := N₈ _ (.head _)
        exact ⟨hs₉.extBut _ _ hI.2.1 z.1, z.2⟩
      rcases List.mem_cons.mp hp with rfl | hp
      · have z := N₈ _ (.tail _ (.head _))
        exact ⟨hs₉.extBut _ _ (Ne.symm hDC) z.1, z.2⟩
      rcases List.mem_cons.mp hp with rfl | hp
      · exact ⟨hD₉.trans (congrArg some (lst_snoc ys u)), hDL, hD₀⟩
      · have z := N₈ p (.tail _ (.tail _ (.tail _ hp)))
        exact ⟨hs₉.extBut _ _ (off' p hp).2.2 z.1, z.2⟩
    · obtain rfl : i = n := Nat.le_antisymm hi (Nat.not_lt.mp hlt)
      refine next_range_end hh F N offI (by omega) fun h₃ F₃ N₃ => ?_
      have hC3 := (N₃ _ (.head _)).1
      refine ⟨mC, hoC.ns hC3, fun h'' hs'' => done D h'' tk ys add hJ hyl (F₃.change hs'' hCL hC₀) (fun p hp => ?_) fun q hq => (off q hq).2.2⟩
      have z := N₃ p (.tail _ hp)
      refine ⟨hs''.extBut _ _ ?_ z.1, z.2⟩
      rcases List.mem_cons.mp hp with rfl | hp
      · exact hDC
      · exact (off p hp).2.1
  refine codeAny_compStart_list (loop _ ⟨_, rfl⟩) ?_
  rw [hO] at N₂
  exact pyIter_it (N₂ _ (.head _)).1 (loop _ ⟨_, rfl⟩)
end
end
section -- Law0
/-- what stands between two steps of the law -/
inductive LawLp (s1 : Shared) (h₀ : Heap) (L : Addr) (kb : Nat) (tb : Tok) (R a0 : Addr) (oG oS : Obj) (fx : List (Addr × Obj)) (I : Addr) (left : Nat) (s' : Shared) : Prop
  | mk (h : Heap) (tk : Nat) (m : Str → Option Value) (x : Int) (e : s' = { s1 with heap := h, toks := tk }) (hx : x = 12 - (left : Int)) (l r : Tre) (g : Value) (S : Addr) (vs : List Value) (c : Nat) (dat : List (Addr × Obj)) (oK : Obj) (vk : Option Value) (rs : List Rw)
    (F : Fr h₀ L h m) (N : News h₀ L h ([(I, itG x left 1)] ++ ((L + 1 + 1 + 1, oK) :: (L + 1 + 1, oG) :: (L + 1, oS) :: ((Tre.node a0 l r g).objs ++ ((S, listOf vs.toArray c) :: (dat ++ fx))))))
    (nd : Nd ([(I, itG x left 1)] ++ ((L + 1 + 1 + 1, oK) :: (L + 1 + 1, oG) :: (L + 1, oS) :: ((Tre.node a0 l r g).objs ++ ((S, listOf vs.toArray c) :: (dat ++ fx)))))) (dK : oK.data = .cell vk)
    (mB : m (Str.ofString "bits") = some (.int (kb : Int) tb)) (mR : m (Str.ofString "routes") = some (.ref R)) (mRows : m (Str.ofString "rows") = some (.ref S))
    (hfit : (Tre.node a0 l r g).er.fit kb) (htk : (Tre.node a0 l r g).er.tight) (hrs : rowsS (Tre.node a0 l r g).er kb 0 0 = rs) (hrows : Rows (dat ++ fx) vs rs) (hlen : rs.length + left ≤ 12) : LawLp s1 h₀ L kb tb R a0 oG oS fx I left s'
/-- what stands behind the law's first If -/
inductive IfSt (s1 : Shared) (h₀ : Heap) (L : Addr) (nw : List (Addr × Obj)) (kb : Nat) (tb : Tok) (R S : Addr) (a c : Int) (ta tc : Tok) (kd : Nat) (tkd : Tok) (s' : Shared) : Prop
  | mk (xb yb : Int) (tx ty : Tok) (h : Heap) (tk : Nat) (m : Str → Option Value) (e : s' = { s1 with heap := h, toks := tk }) (F : Fr h₀ L h m) (N : News h₀ L h nw)
    (ha : m (Str.ofString "a") = some (.int a ta)) (hc : m (Str.ofString "c") = some (.int c tc)) (hk : m (Str.ofString "kind") = some (.int (kd : Int) tkd)) (hb : m (Str.ofString "bits") = some (.int (kb : Int) tb)) (hr : m (Str.ofString "rows") = some (.ref S)) (hro : m (Str.ofString "routes") = some (.ref R))
    (hba : m (Str.ofString "base") = some (.int xb tx)) (hle : m (Str.ofString "length") = some (.int yb ty)) (hv : (∃ B n : Nat, xb = (B : Int) ∧ yb = (n : Int) ∧ B < 2 ^ kb ∧ n ≤ kb) ∨ Bad kb xb yb) : IfSt s1 h₀ L nw kb tb R S a c ta tc kd tkd s'
/-- what stands at a turn of the law's last loop -/
inductive WhSt (s1 : Shared) (h₀ : Heap) (L : Addr) (kb : Nat) (tb : Tok) (R S a0 : Addr) (rr : List (Addr × Obj)) (tn : Int) (mm : Nat) (s' : Shared) : Prop
  | mk (h : Heap) (tk : Nat) (m : Str → Option Value) (l r : Tre) (g : Value) (vs : List Value) (c : Nat) (rs : List Rw) (tt : Tok) (e : s' = { s1 with heap := h, toks := tk }) (F : Fr h₀ L h m)
    (N : News h₀ L h ((S, listOf vs.toArray c) :: ((Tre.node a0 l r g).objs ++ rr))) (nd : Nd ((S, listOf vs.toArray c) :: ((Tre.node a0 l r g).objs ++ rr)))
    (mB : m (Str.ofString "bits") = some (.int (kb : Int) tb)) (mR : m (Str.ofString "routes") = some (.ref R)) (mRows : m (Str.ofString "rows") = some (.ref S)) (mT : m (Str.ofString "turn") = some (.int tn tt))
    (hfit : (Tre.node a0 l r g).er.fit kb) (htk : (Tre.node a0 l r g).er.tight) (hrs : rowsS (Tre.node a0 l r g).er kb 0 0 = rs) (hrows : Rows rr vs rs) (hmm : rs.length = mm) (hm12 : mm ≤ 12) : WhSt s1 h₀ L kb tb R S a0 rr tn mm s'
/-- the law's names ahead of its loop -/
inductive MapA (h₀ : Heap) (L : Addr) (h : Heap) (kb : Nat) (R S : Addr) : Prop
  | mk (m : Str → Option Value) (tb : Tok) (F : Fr h₀ L h m) (g1 : m (Str.ofString "bits") = some (.int (kb : Int) tb)) (g2 : m (Str.ofString "routes") = some (.ref R)) (g3 : m (Str.ofString "rows") = some (.ref S)) : MapA h₀ L h kb R S
/-- the law's names behind a step's numbers -/
inductive MapB (h₀ : Heap) (L : Addr) (h : Heap) (kb : Nat) (tb : Tok) (R S : Addr) (a b c : Int) (ta t2 tc : Tok) (kd bs ln : Nat) : Prop
  | mk (m : Str → Option Value) (tk t3 t4 : Tok) (F : Fr h₀ L h m) (ga : m (Str.ofString "a") = some (.int a ta)) (gb : m (Str.ofString "b") = some (.int b t2)) (gc : m (Str.ofString "c") = some (.int c tc))
    (gk : m (Str.ofString "kind") = some (.int (kd : Int) tk)) (gs : m (Str.ofString "base") = some (.int (bs : Int) t3)) (gl : m (Str.ofString "length") = some (.int (ln : Int) t4))
    (gi : m (Str.ofString "bits") = some (.int (kb : Int) tb)) (gr : m (Str.ofString "rows") = some (.ref S)) (go : m (Str.ofString "routes") = some (.ref R)) : MapB h₀ L h kb tb R S a b c ta t2 tc kd bs ln
theorem ints3 {ys : List Value} {cs : List Int} (h : IntsAre ys cs) (hl : cs.length = 3) : ∃ a b c ta tb tc, ys = [.int a ta, .int b tb, .int c tc] := by
  match cs, hl with
  | [a, b, c], _ =>
    cases h with
    | cons _ ta h =>
      cases h with
      | cons _ tb h =>
        cases h with
        | cons _ tc h =>
          cases h
          exact ⟨a, b, c, ta, tb, tc, rfl⟩
theorem range12 : Builtin.Range.rangeSize 0 12 1 = ((12 : Nat) : Int) := by decide +kernel
theorem fit_bare (n : Nat) (g : Value) : (Shp.node .nil .nil g).fit n := by
  cases n with
  | zero => exact ⟨rfl, rfl⟩
  | succ n => exact ⟨fit_nil n, fit_nil n⟩
end
section -- pre2
local macro_rules | `(tactic| walk_at "pyIter ref") => `(tactic| (k_here; (with_reducible show wpAny _ _ (pyIter (Value.ref _)) (fun it s₂ => ForRest _ _ _ _ _ _ _ _ _) _ _); with_unfolding_all refine' Mine.iter_tup ?k1 ?k2 ?k3 ?_; (case k1 | k2 => k_asm); (case k3 => k_mem); k_whole; intro I' o' h' hO' F' N' l1; (try k_sweep)))
local macro_rules | `(tactic| k_all) => `(tactic| first | assumption | (refine' List.forall_mem_cons.mpr ⟨?kaa, ?kab⟩; (case kaa => k_ne); (case kab => k_all)))
local macro_rules | `(tactic| walk_at "exec Assign cons ListComp") => `(tactic| refine hold_any ?_)
local macro_rules | `(tactic| walk_at "eval ListComp") => `(tactic| refine hold_any ?_)
local macro_rules | `(tactic| walk_at "subscriptTail Name") => `(tactic| (k_here; (with_reducible show wpAny _ _ (subscriptTail _ _ (Value.ref _) (Value.int _ _)) _ _ _); (with_unfolding_all refine' item_tup ?k1 ?k2 ?k3 ?k4 ?k5 ?_; (case k1 => k_asm); (case k2 => k_mem); (case k3 | k4 => decide); (case k5 => rfl); k_whole)))
local macro_rules | `(tactic| walk_at "compareOp NotEq ref ref") => `(tactic| refine hold_any ?_)
local macro_rules | `(tactic| walk_at "compareOp Eq ref ref") => `(tactic| refine hold_any ?_)
section -- P7
theorem off_P7 : True := by w_top off; exact trivial
inductive TrOut (l r : Shp) (g : Value) (news : List (Addr × Obj)) (rv : Value) (nx : List (Addr × Obj)) : Prop
  | mk (a : Addr) (tl tr : Tre) (f0 : rv = .ref a) (f1 : nx = (Tre.node a tl tr g).objs ++ news) (f2 : Nd nx) (f3 : tl.er = l) (f4 : tr.er = r) : TrOut l r g news rv nx
inductive GlSt (s : Shared) (gH : Heap) (L2 : Addr) (Dt Nl I2 S : Addr) (oS oF : Obj) (tk_2 : Tok) (vL vR : Value) (rs : List Rw) (vs : List Value) (ng : List (Addr × Obj)) (mm : Nat) (s' : Shared) : Prop
  | mk (h : Heap) (tk : Nat) (m : Str → Option Value) (o : Obj) (i : Nat) (f0 : mm + i = vs.length) (f1 : s' = { s with heap := h, toks := tk }) (f2 : ItL o S i) (f3 : Fr gH L2 h m) (f4 : News gH L2 h ((I2, o) :: (Dt, tupO #[.int 0 tk_2, .int 1 (tk_2 + 1)] 0) :: (Nl, listOf #[vL, vR, rootG (rs.take i)] 0) :: (L2 + 1 + 1, oS) :: (L2 + 1, oF) :: ng)) (f5 : m (Str.ofString "node") = some (.ref Nl)) : GlSt s gH L2 Dt Nl I2 S oS oF tk_2 vL vR rs vs ng mm s'
inductive TrSt (s : Shared) (gH : Heap) (L2 : Addr) (Dt Nl I : Addr) (oF : Obj) (tk_2 tk_1 : Tok) (k : Nat) (S : Addr) (lS rS : Shp) (news : List (Addr × Obj)) (xs : List Bool) (s' : Shared) : Prop
  | mk (h : Heap) (tq : Nat) (m : Str → Option Value) (o oS : Obj) (vS : Option Value) (tl tr : Tre) (f0 : s' = { s with heap := h, toks := tq }) (f1 : ItT o Dt (2 - xs.length)) (f2 : xs = [false, true].drop (2 - xs.length)) (f3 : Fr gH L2 h m) (f4 : News gH L2 h ((I, o) :: (Dt, tupO #[.int 0 tk_2, .int 1 (tk_2 + 1)] 0) :: (Nl, listOf #[Tre.val tl, Tre.val tr, .none] 0) :: (L2 + 1 + 1, oS) :: (L2 + 1, oF) :: (tl.objs ++ (tr.objs ++ news)))) (f5 : Nd ((I, o) :: (Dt, tupO #[.int 0 tk_2, .int 1 (tk_2 + 1)] 0) :: (Nl, listOf #[Tre.val tl, Tre.val tr, .none] 0) :: (L2 + 1 + 1, oS) :: (L2 + 1, oF) :: (tl.objs ++ (tr.objs ++ news)))) (f6 : m (Str.ofString "node") = some (.ref Nl)) (f7 : m (Str.ofString "rows") = some (.ref S)) (f8 : m (Str.ofString "bits") = some (.int (k : Int) tk_1)) (f9 : oS.data = .cell vS) (f10 : tl.er = (if xs.length ≤ 1 then lS else .nil)) (f11 : tr.er = (if xs.length = 0 then rS else .nil)) : TrSt s gH L2 Dt Nl I oF tk_2 tk_1 k S lS rS news xs s'
section
variable (w : World) (p : Program) (loose : List Str) (mean : ExcName → Option Value) (mg mb : Str → Option Value)
set_option maxRecDepth 100000 in
set_option maxHeartbeats 8000000 in
theorem C_trie : ∀ (k : Nat) (news : List (Addr × Obj)) (l r : Shp) (g : Value) (tk_1 : Tok) (S : Addr) (vs : List Value) (c : Nat), k ≤ 9 → (Shp.node l r g).fit k → (Shp.node l r g).tight → (S, listOf vs.toArray c) ∈ news → Rows news vs (rowsS (.node l r g) k 0 0) → Nd news →
   Con w p loose mean mg mb 180 [.ref S, .int (k : Int) tk_1] (10 * k + 20) (100 * k + 300) news
     (TrOut l r g news) := by
  intro k
  induction k using Nat.strongRecOn with
  | ind k ih =>
  intro news lS rS gS tk_1 S vs c hk9 hfit htk hS hrs hnd
  intro dp un gd cn cs ad ccd cl outer A₀ base h₀ L m s Q E BB F X N TT hkk hd hu hret
  have hlen : vs.length ≤ 1024 := by rw [hrs.1.length]; exact rowsS_len9 hfit hk9 0 0
  generalize hrows : rowsS (.node lS rS gS) k 0 0 = rs at hrs
  refine wpAny_call ?_
  first | k_dflt ktr_enter | fail "enter"
  rename_i gH L2 hH tkH FG F2 B2 X2 T2 l1 oS oH dS dH N2
  have a1 : ∀ q ∈ news, q.1 ≠ L2 + 1 := fun q hq e => by have := l1 q hq; rw [e] at this; exact absurd this (Nat.not_lt.mpr (Nat.le_succ _))
  have a2 : ∀ q ∈ news, q.1 ≠ L2 + 1 + 1 := fun q hq e => by have := l1 q hq; rw [e] at this; exact absurd this (Nat.not_lt.mpr (Nat.le_trans (Nat.le_succ _) (Nat.le_succ _)))
  k_steps
  rename_i hA oF dF0 Nl hB lN hC Dt hD lD I oI hE hO F3 N3 lI
  obtain ⟨tk_2, etk⟩ : ∃ x, x = tk := ⟨_, rfl⟩
  rw [← etk] at N3 lI
  clear etk
  have nd3 : Nd ((I, oI) :: (Dt, tupO #[.int 0 tk_2, .int 1 (tk_2 + 1)] 0) :: (Nl, listOf #[.none, .none, .none] 0) :: (L2 + 1 + 1, oS) :: (L2 + 1, oF) :: news) := by
    refine Nd.lt (Nd.cons (Nd.cons (Nd.cons (Nd.cons hnd a1) ?_) ?_) ?_) lI
    · exact List.forall_mem_cons.mpr ⟨Nat.ne_of_lt (Nat.lt_succ_self _), a2⟩
    · exact List.forall_mem_cons.mpr ⟨Nat.ne_of_lt lN.1, List.forall_mem_cons.mpr ⟨Nat.ne_of_lt lN.2.1, fun q hq => Nat.ne_of_lt (tb_ltOf lN.2.2 q hq)⟩⟩
    · exact List.forall_mem_cons.mpr ⟨Nat.ne_of_lt lD.1, List.forall_mem_cons.mpr ⟨Nat.ne_of_lt lD.2.1, List.forall_mem_cons.mpr ⟨Nat.ne_of_lt lD.2.2.1, fun q hq => Nat.ne_of_lt (tb_ltOf lD.2.2.2 q hq)⟩⟩⟩
  have lDI : @LT.lt Nat _ Dt I := lI _ (.head _)
  obtain ⟨hf, ehf⟩ : ∃ hf, hf = 2 ^ k / 2 := ⟨_, rfl⟩
  obtain ⟨tF, dF⟩ : ∃ t, oF.data = .cell (some (.int (hf : Int) t)) := by
    have e : (2 ^ (k : Int).toNat : Int).fdiv 2 = (hf : Int) := by
      have e1 : ((2 : Int) ^ (k : Int).toNat) = ((2 ^ k : Nat) : Int) := by simp
      have e2 : Int.fdiv ((2 ^ k : Nat) : Int) 2 = ((2 ^ k / 2 : Nat) : Int) := fdiv_nat (2 ^ k) 2
      rw [e1, e2, ehf]
    rw [e] at dF0
    exact ⟨_, dF0⟩
  clear dF0
  have hle : hf ≤ 512 := by
    have : 2 ^ k ≤ 2 ^ 9 := Nat.pow_le_pow_right (by omega) hk9
    omega
  have hzero : hf = 0 → k = 0 := fun h => by
    cases k with
    | zero => rfl
    | succ k =>
      have : 0 < 2 ^ k := Nat.pos_of_ne_zero (by simp)
      rw [Nat.pow_succ] at ehf
      omega
  have hql : ∀ q ∈ rs, q.l = 0 ∨ 0 < hf := fun q hq => by
    rw [← hrows] at hq
    have := rowsS_bounds hfit 0 0 q hq
    omega
  refine for_ind (TrSt s gH L2 Dt Nl I oF tk_2 tk_1 k S lS rS news) ?_ ?_ [false, true] _ ⟨_, _, _, oI, oS, _, .nil, .nil, rfl, hO, rfl, F3, N3, nd3, rfl, rfl, rfl, dS, rfl, rfl⟩
  · clear F3 N3 nd3 hO lI dS
    rintro sd xs s₁ ⟨h, tq, m1, o, oS, vS, tl, tr, rfl, hO, hxs, F, N, nd, mN, mR, mB, dS, el, er⟩ IH
    obtain ⟨ng, eng⟩ : ∃ x, x = tl.objs ++ (tr.objs ++ news) := ⟨_, rfl⟩
    obtain ⟨vL, evL⟩ : ∃ x, x = tl.val := ⟨_, rfl⟩
    obtain ⟨vR, evR⟩ : ∃ x, x = tr.val := ⟨_, rfl⟩
    rw [← eng, ← evL, ← evR] at N nd
    have hng : ∀ q ∈ news, q ∈ ng := fun q hq => by rw [eng]; exact List.mem_append_right _ (List.mem_append_right _ hq)
    have offI := nd.off
    have offS := nd.tail.tail.tail.off
    have hcase : (sd = false ∧ xs = [true]) ∨ (sd = true ∧ xs = []) := by
      cases xs with
      | nil =>
        injection hxs with e1 e2
        exact .inr ⟨e1, rfl⟩
      | cons y ys =>
        cases ys with
        | nil =>
          injection hxs with e1 e2
          injection e2 with e2
          subst e1 e2
          exact .inl ⟨rfl, rfl⟩
        | cons _ _ =>
          have := congrArg List.length hxs
          simp at this
    have hsd : ∃ t, (#[Value.int 0 tk_2, .int 1 (tk_2 + 1)] : Array Value)[2 - (sd :: xs).length]? = some (.int (bi sd) t) := by
      rcases hcase with ⟨rfl, rfl⟩ | ⟨rfl, rfl⟩ <;> exact ⟨_, rfl⟩
    obtain ⟨tS, hsd⟩ := hsd
    refine for_itemU F N hO offI (.head _) hsd fun o' h' hO' F' N' => ?_
    clear F N
    k_steps
    refine hold_off ?_
    k_dflt (refine LCt.Assign_ListComp_T (F₀ := by k_asm) (by rfl) (by with_unfolding_all rfl) (by with_unfolding_all rfl) (by decide) (by rfl) (by decide) (by rfl) (by rfl) (by rfl) ?_)
    k_steps
    rename_i hG oS2 F4 N4 dS2
    have hsz : vs.toArray.size ≤ sizeLine := by rw [List.size_toArray, sizeLine_eq]; omega
    have hnw : ∀ q ∈ news, q ∈ ((I, o') :: (Dt, tupO #[.int 0 tk_2, .int 1 (tk_2 + 1)] 0) :: (Nl, listOf #[vL, vR, .none] 0) :: (L2 + 1 + 1, oS2) :: (L2 + 1, oF) :: ng) := fun q hq =>
      .tail _ (.tail _ (.tail _ (.tail _ (.tail _ (hng q hq)))))
    refine LCt.CompSrcT.ledger rfl F4 N4 (hnw _ hS) hsz ?_
    intro g9
    refine compT_ind (fun i ys => RowsIn news ys ((rs.take i).filter fun q => decide (0 < q.l) && decide (q.b / hf = (if sd then 1 else 0)))) ?_ ?_ _ 0 [] (Nat.zero_add _) ?_
    · intro k9 i ys e9 hJ IH9
      refine LCt.CompRestT.succ ?_
      intro v I9 oI9 C9 oC9 D9 m9 h9 tk9 E9 hv hC hx F9 N9 off ne9
      obtain ⟨q, a, t1, t2, n, hq, rfl, hm⟩ := hrs.1.get (v := v) (i := i) (by simpa using hv)
      have hm' := hng _ hm
      have hqz := hql q (List.mem_of_getElem? hq)
      have hqd : (q.b : Int).fdiv (hf : Int) = ((q.b / hf : Nat) : Int) := fdiv_nat _ _
      k_steps
      · rename_i c1 c2
        refine LCg.CompEnd.intro F9 N9 _ (fun _ h => h) off (Or.inr ⟨_, hnw _ hS, rfl, _, rfl⟩) (IH9 _ ?_)
        rw [take_snoc hq, List.filter_append]
        have e : [q].filter (fun q => decide (0 < q.l) && decide (q.b / hf = (if sd then 1 else 0))) = [q] := by
          rw [hqd] at c2
          have c3 : q.b / hf = (if sd then 1 else 0) := by
            unfold bi at c2
            generalize q.b / hf = z at c2 ⊢
            cases sd <;> simp only [Bool.false_eq_true, if_false, if_true] at c2 ⊢ <;> omega
          have c4 : 0 < q.l := by omega
          simp [c3, c4]
        rw [e]
        exact hJ.snoc hm
      · rename_i c1 c2
        refine LCg.CompEnd.intro F9 N9 _ (fun _ h => h) off (Or.inr ⟨_, hnw _ hS, rfl, _, rfl⟩) (IH9 _ ?_)
        rw [take_snoc hq, List.filter_append]
        have e : [q].filter (fun q => decide (0 < q.l) && decide (q.b / hf = (if sd then 1 else 0))) = [] := by
          rw [hqd] at c2
          have c3 : ¬ q.b / hf = (if sd then 1 else 0) := by
            unfold bi at c2
            generalize q.b / hf = z at c2 ⊢
            cases sd <;> simp only [Bool.false_eq_true, if_false, if_true] at c2 ⊢ <;> omega
          simp [c3]
        rw [e, List.append_nil]
        exact hJ
      · rename_i c1
        refine LCg.CompEnd.intro F9 N9 _ (fun _ h => h) off (Or.inr ⟨_, hnw _ hS, rfl, _, rfl⟩) (IH9 _ ?_)
        rw [take_snoc hq, List.filter_append]
        have e : [q].filter (fun q => decide (0 < q.l) && decide (q.b / hf = (if sd then 1 else 0))) = [] := by
          have c4 : ¬ 0 < q.l := by omega
          simp [c4]
        rw [e, List.append_nil]
        exact hJ
    · intro ys hJ
      clear F4 N4
      refine Classical.byContradiction fun hno9 => ?_
      obtain ⟨kid, kr, ekid, hW, hknil, hknode⟩ : ∃ kid kr, kid = (if sd then rS else lS) ∧ Rows news ys kr ∧ (kid = .nil → kr = []) ∧ (kid ≠ .nil → ∃ m, k = m + 1 ∧ hf = 2 ^ m ∧ kr = rowsS kid m (if sd then 2 ^ m else 0) 1) := by
        have e1 : rs.take vs.toArray.size = rs := by
          rw [List.size_toArray, hrs.1.length]; exact List.take_length
        rw [e1] at hJ
        have hg : ∀ q ∈ rs.filter (fun q => decide (0 < q.l) && decide (q.b / hf = (if sd then 1 else 0))), GoalIn news q.g := fun q hq => hrs.2 q (List.mem_filter.mp hq).1
        refine ⟨_, _, rfl, ⟨hJ, hg⟩, ?_, ?_⟩
        · intro hnil
          rw [← hrows]
          cases k with
          | zero => exact rowsS_side0 hfit _
          | succ k =>
            have e2 : hf = 2 ^ k := by rw [ehf, Nat.pow_succ, Nat.mul_div_cancel _ (by omega)]
            rw [e2, rowsS_side hfit sd, hnil]; rfl
        · intro hnn
          cases k with
          | zero =>
            have h' : lS = .nil ∧ rS = .nil := hfit
            exact absurd (by rw [h'.1, h'.2]; cases sd <;> rfl) hnn
          | succ k =>
            have e2 : hf = 2 ^ k := by rw [ehf, Nat.pow_succ, Nat.mul_div_cancel _ (by omega)]
            exact ⟨k, rfl, e2, by rw [← hrows, e2, rowsS_side hfit sd]⟩
      refine hno9 ?_
      clear hno9
      k_steps
      rename_i Wn hI tkI oW El hJ2 F6 N6 lE
      have sW : ∀ q ∈ news, q ∈ ((El, listOf #[] 0) :: (Wn, LCg.lst ys) :: (I, o') :: (Dt, tupO #[.int 0 tk_2, .int 1 (tk_2 + 1)] 0) :: (Nl, listOf #[vL, vR, .none] 0) :: (L2 + 1 + 1, oS2) :: (L2 + 1, oF) :: ng) := fun q hq => .tail _ (.tail _ (hnw q hq))
      refine hold_off (ne_nil_at (n := ys.length) N6 (.tail _ (.head _)) (.head _) hW sW (by ktr_units) ?_)
      cases kid with
      | nil =>
        have hne : (!kr.isEmpty) = false := by rw [hknil rfl]; rfl
        rw [hne]
        k_steps
        subst eng evL evR
        refine for_post_next (IH _ ⟨_, _, _, o', oS2, _, tl, tr, rfl, ?_, ?_, F6, news_sub N6 fun q hq => .tail _ (.tail _ hq), ?_, mN, mR, mB, dS2, ?_, ?_⟩)
        · rcases hcase with ⟨rfl, rfl⟩ | ⟨rfl, rfl⟩ <;> exact hO'
        · rcases hcase with ⟨rfl, rfl⟩ | ⟨rfl, rfl⟩ <;> rfl
        · exact nd_of_cn nd fun y => by simp only [cn_cons, cn_append]; omega
        · rcases hcase with ⟨rfl, rfl⟩ | ⟨rfl, rfl⟩
          · simp at ekid el ⊢; rw [el, ← ekid]
          · simp at el ⊢; exact el
        · rcases hcase with ⟨rfl, rfl⟩ | ⟨rfl, rfl⟩
          · simp at er ⊢; exact er
          · simp at ekid er ⊢; rw [er, ← ekid]
      | node l2 r2 g2 =>
        obtain ⟨k, rfl, ehk, ekr⟩ := hknode (by simp)
        have hpos : 0 < hf := by rw [ehk]; exact Nat.pos_of_ne_zero (by simp)
        have hkf : (Shp.node l2 r2 g2).fit k := by
          have h' : lS.fit k ∧ rS.fit k := hfit
          rw [ekid]; cases sd
          · exact h'.1
          · exact h'.2
        have hkt : (Shp.node l2 r2 g2).tk := by
          have h' : lS.tk ∧ rS.tk := htk
          rw [ekid]; cases sd
          · exact h'.1
          · exact h'.2
        have hne : (!kr.isEmpty) = true := by
          have := rowsS_ne hkt (by simp) k (if sd then 2 ^ k else 0) 1
          rw [← ekr] at this
          cases hq : kr with
          | nil => exact absurd hq this
          | cons _ _ => rfl
        rw [hne]
        k_steps
        have hyl := hW.1.length
        have hylen : ys.length ≤ sizeLine := by
          rw [hyl, ekr, sizeLine_eq]
          have := rowsS_len9 hkf (by omega) (if sd then 2 ^ k else 0) 1
          omega
        have hkq : ∀ q ∈ kr, 1 ≤ q.l := fun q hq => by
          rw [ekr] at hq
          exact (rowsS_bounds hkf _ _ q hq).1
        refine hold_off (ListComp_3 F6 (by with_unfolding_all rfl) (by decide) (by rfl) (by decide) (by rfl) (by rfl) (by rfl) (by decide) (by decide) (by decide) ?_)
        k_steps
        obtain ⟨NL, eNL⟩ : ∃ x, x = ((El, listOf #[] 0) :: (Wn, LCg.lst ys) :: (I, o') :: (Dt, tupO #[.int 0 tk_2, .int 1 (tk_2 + 1)] 0) :: (Nl, listOf #[vL, vR, .none] 0) :: (L2 + 1 + 1, oS2) :: (L2 + 1, oF) :: ng) := ⟨_, rfl⟩
        have nd7 : Nd NL := by
          rw [eNL]
          refine Nd.lt (Nd.cons (nd_of_cn nd fun y => by simp only [cn_cons]; omega) ?_) ?_
          · exact off1_of (D := Wn) oW
          · exact tb_ltOf lE
        have mW : (Wn, listOf ys.toArray ys.length) ∈ NL := by rw [eNL]; exact .tail _ (.head _)
        have mH : (L2 + 1, oF) ∈ NL := by rw [eNL]; exact .tail _ (.tail _ (.tail _ (.tail _ (.tail _ (.tail _ (.head _))))))
        have N7 : News gH L2 hJ2 NL := by rw [eNL]; exact N6
        have sW7 : ∀ q ∈ news, q ∈ NL := by rw [eNL]; exact sW
        clear N6
        refine ⟨Wn, ys, ys.length, NL, fun i us add => RowsIn add us ((kr.take i).map fun q => (⟨q.b % hf, q.l - 1, q.g⟩ : Rw)) ∧ Nd (add ++ NL), rfl, rfl, F6, N7, mW, hylen, ⟨.nil, nd7⟩, ?_, ?_⟩
        · rintro i us add v ⟨hJ3, nda⟩ hv
          obtain ⟨q, a, t1, t2, n, hq, rfl, hm⟩ := hW.1.get hv
          refine ⟨a, _, _, _, n, rfl, sW7 _ hm, ?_⟩
          intro I9 oI9 C9 oC9 D9 m9 h9 tk9 E9 hC9 hx1 hx2 hx3 F9 N9 lt9
          have hq1 := hkq q (List.mem_of_getElem? hq)
          have hnz : (hf : Int) ≠ 0 := by omega
          k_steps
          rename_i Tn hT FT NT lT
          have eb : (q.b : Int).fmod (hf : Int) = ((q.b % hf : Nat) : Int) := fmod_nat _ _
          have el : (q.l : Int) - 1 = ((q.l - 1 : Nat) : Int) := by omega
          rw [eb, el] at NT
          refine ⟨_, _, (Tn, tupO #[.int ((q.b % hf : Nat) : Int) tk9, .int ((q.l - 1 : Nat) : Int) (tk9 + 1 + 1), q.g] 0) :: add, rfl, FT, news_sub NT (sub_cc fun y => ?_), ?_, ?_, ?_⟩
          · simp only [cc_cons, cc_append, List.cons_append, tupO]
            omega
          · intro y hy
            rcases List.mem_cons.mp hy with rfl | hy
            · exact .inr ⟨Ne.symm (Nat.ne_of_lt lT.1), Ne.symm (Nat.ne_of_lt lT.2.1), Ne.symm (Nat.ne_of_lt lT.2.2.1)⟩
            · exact .inl hy
          · rw [take_snoc hq, List.map_append]
            exact (hJ3.mono fun y hy => .tail _ hy).snoc (q := ⟨q.b % hf, q.l - 1, q.g⟩) (.head _)
          · exact nda.lt (tb_ltOf lT.2.2.2)
        · rintro Dn hd9 tkd us add ⟨hJ3, nda⟩ hul Fd Nd9 offd
          have e1 : kr.take ys.length = kr := by rw [hyl]; exact List.take_length
          have e2 := rowsS_within hkf sd
          have hR2 : Rows ((Dn, LCg.lst us) :: (add ++ NL)) us (rowsS (.node l2 r2 g2) k 0 0) := by
            rw [e1, ekr, ehk, e2] at hJ3
            refine ⟨hJ3.mono fun q hq => .tail _ (List.mem_append_left _ hq), fun q hq => ?_⟩
            rw [← e2, ← ekr] at hq
            obtain ⟨q', hq', rfl⟩ := List.mem_map.mp hq
            exact (hW.2 q' hq').mono fun x hx => .tail _ (List.mem_append_right _ (sW7 x hx))
          have nd9 : Nd ((Dn, LCg.lst us) :: (add ++ NL)) := nda.cons offd
          k_steps
          have ek1 : ((k + 1 : Nat) : Int) - 1 = (k : Int) := by omega
          rw [ek1]
          refine' con_use (ih k (Nat.lt_succ_self k) _ l2 r2 g2 _ Dn us us.length (by omega) hkf hkt.2 (.head _) hR2 nd9) ?k1 Fd ?k3 Nd9 ?k5 ?kK ?kd ?ku ?_
          (case k1 => k_asm)
          (case k3 => k_asm)
          (case k5 => k_asm)
          (case kK => exact rfl)
          (case kd => ktr_room)
          (case ku => ktr_units)
          intro r10 nx10 h10 tk10 F10 N10 O10
          obtain ⟨a, tl2, tr2, q9, q8, nd10, e2l, e2r⟩ := O10
          subst q9; subst q8
          obtain ⟨tob, etob⟩ : ∃ x, x = (Tre.node a tl2 tr2 g2).objs := ⟨_, rfl⟩
          rw [← etob] at N10 nd10
          have N11 : News gH L2 h10 ((Nl, listOf #[vL, vR, .none] 0) :: (tob ++ ((I, o') :: (Dt, tupO #[.int 0 tk_2, .int 1 (tk_2 + 1)] 0) :: (L2 + 1 + 1, oS2) :: (L2 + 1, oF) :: ng))) := news_sub N10 (sub_cc fun y => by
            rw [eNL]; simp only [cc_cons, cc_append]; omega)
          have nd11 : Nd ((Nl, listOf #[vL, vR, .none] 0) :: (tob ++ ((I, o') :: (Dt, tupO #[.int 0 tk_2, .int 1 (tk_2 + 1)] 0) :: (L2 + 1 + 1, oS2) :: (L2 + 1, oF) :: ng))) := nd_of_cn nd10 fun y => by
            rw [eNL]; simp only [cn_cons, cn_append]; omega
          clear N10 Nd9 Fd
          k_steps
          rename Fr gH L2 _ _ => F12
          rename News gH L2 _ _ => N12
          refine set_at F12 N12 nd11.off (k := bi sd) (by cases sd <;> decide) (by cases sd <;> decide) (by cases sd <;> simp [bi]) (its' := if sd then #[vL, .ref a, .none] else #[.ref a, vR, .none]) (by cases sd <;> rfl) fun h13 F13 N13 => ?_
          k_steps
          subst eng evL evR etob
          rcases hcase with ⟨rfl, rfl⟩ | ⟨rfl, rfl⟩
          · have hnil : tl = .nil := by
              cases tl with
              | nil => rfl
              | node _ _ _ _ => cases el
            subst hnil
            refine for_post_next (IH _ ⟨_, _, _, o', oS2, _, .node a tl2 tr2 g2, tr, rfl, hO', rfl, F13, news_sub N13 (sub_cc fun y => ?_), nd_of_cn nd11 fun y => ?_, mN, mR, mB, dS2, ?_, er⟩)
            · simp only [cc_cons, cc_append, Tre.objs, cc_nil, Bool.false_eq_true, if_false, val_mk, List.nil_append]; omega
            · simp only [cn_cons, cn_append, Tre.objs, cn_nil, Bool.false_eq_true, if_false, val_mk, List.nil_append]; omega
            · simp only [Tre.er, e2l, e2r]
              simpa using ekid
          · have hnil : tr = .nil := by
              cases tr with
              | nil => rfl
              | node _ _ _ _ => cases er
            subst hnil
            refine for_post_next (IH _ ⟨_, _, _, o', oS2, _, tl, .node a tl2 tr2 g2, rfl, hO', rfl, F13, news_sub N13 (sub_cc fun y => ?_), nd_of_cn nd11 fun y => ?_, mN, mR, mB, dS2, el, ?_⟩)
            · simp only [cc_cons, cc_append, Tre.objs, cc_nil, if_true, val_mk, List.nil_append]; omega
            · simp only [cn_cons, cn_append, Tre.objs, cn_nil, if_true, val_mk, List.nil_append]; omega
            · simp only [Tre.er, e2l, e2r]
              simpa using ekid
    · exact .nil
  · rintro s₁ ⟨h, tq, m1, o, oS, vS, tl, tr, rfl, hO, hxs, F, N, nd, mN, mR, mB, dS, el, er⟩
    have el' : tl.er = lS := by simpa using el
    have er' : tr.er = rS := by simpa using er
    obtain ⟨ng, eng⟩ : ∃ x, x = tl.objs ++ (tr.objs ++ news) := ⟨_, rfl⟩
    obtain ⟨vL, evL⟩ : ∃ x, x = tl.val := ⟨_, rfl⟩
    obtain ⟨vR, evR⟩ : ∃ x, x = tr.val := ⟨_, rfl⟩
    rw [← eng, ← evL, ← evR] at N nd
    have hng : ∀ q ∈ news, q ∈ ng := fun q hq => by rw [eng]; exact List.mem_append_right _ (List.mem_append_right _ hq)
    refine for_endU rfl F N hO nd.off (.head _) (by simp) fun h' F' N' => ?_
    have nd2 := nd.tail
    clear F N nd
    have hSg := hng _ hS
    k_steps
    rename_i I2 o2 h2 hO2 F2' N2' lI2
    have nd3 := nd2.lt (p := (I2, o2)) lI2
    refine for_indN (GlSt s gH L2 Dt Nl I2 S oS oF tk_2 vL vR rs vs ng) ?_ ?_ vs.length _ ⟨_, _, _, o2, 0, rfl, rfl, hO2, F2', N2', mN⟩
    · rintro mm s₂ ⟨h, tq, m2, o, i, hi, rfl, hO, F, N, mN⟩ IH
      obtain ⟨v, hv⟩ : ∃ v, vs[i]? = some v := ⟨_, List.getElem?_eq_getElem (by omega)⟩
      obtain ⟨q, a, t1, t2, n, hq, rfl, hm⟩ := hrs.1.get hv
      have hm' := hng _ hm
      have nd4 : Nd ((I2, o) :: (Dt, tupO #[.int 0 tk_2, .int 1 (tk_2 + 1)] 0) :: (Nl, listOf #[vL, vR, rootG (rs.take i)] 0) :: (L2 + 1 + 1, oS) :: (L2 + 1, oF) :: ng) := nd_of_cn nd3 fun y => by simp only [cn_cons]; omega
      refine for_itemT F N hO nd4.off (.tail _ (.tail _ (.tail _ (.tail _ hSg)))) (by simpa using hv) fun o' h' hO' F' N' => ?_
      clear F N
      have eR : rootG (rs.take (i + 1)) = if q.l = 0 then q.g else rootG (rs.take i) := by rw [take_snoc hq, rootG_snoc]
      have hmi : mm + (i + 1) = vs.length := by omega
      k_steps
      · rename (q.l : Int) = 0 => hl0
        rename Fr gH L2 _ _ => F12
        rename News gH L2 _ _ => N12
        have N13 : News gH L2 _ ((Nl, listOf #[vL, vR, rootG (rs.take i)] 0) :: (I2, o') :: (Dt, tupO #[.int 0 tk_2, .int 1 (tk_2 + 1)] 0) :: (L2 + 1 + 1, oS) :: (L2 + 1, oF) :: ng) := news_sub N12 (sub_cc fun y => by simp only [cc_cons]; omega)
        have nd13 : Nd ((Nl, listOf #[vL, vR, rootG (rs.take i)] 0) :: (I2, o') :: (Dt, tupO #[.int 0 tk_2, .int 1 (tk_2 + 1)] 0) :: (L2 + 1 + 1, oS) :: (L2 + 1, oF) :: ng) := nd_of_cn nd3 fun y => by simp only [cn_cons]; omega
        refine set_at F12 N13 nd13.off (by decide) (by decide) (by simp) (its' := #[vL, vR, q.g]) rfl fun h14 F14 N14 => ?_
        k_steps
        rw [if_pos (by omega)] at eR
        refine for_post_next (IH _ ⟨_, _, _, o', i + 1, hmi, rfl, hO', F14, news_sub N14 (sub_cc fun y => ?_), mN⟩)
        rw [eR]
        simp only [cc_cons]; omega
      · rename ¬ (q.l : Int) = 0 => hl0
        rename Fr gH L2 _ _ => F12
        rename News gH L2 _ _ => N12
        rw [if_neg (by omega)] at eR
        refine for_post_next (IH _ ⟨_, _, _, o', i + 1, hmi, rfl, hO', F12, ?_, mN⟩)
        rw [eR]
        exact N12
    · rintro s₂ ⟨h, tq, m2, o, i, hi, rfl, hO, F, N, mN⟩
      have nd4 : Nd ((I2, o) :: (Dt, tupO #[.int 0 tk_2, .int 1 (tk_2 + 1)] 0) :: (Nl, listOf #[vL, vR, rootG (rs.take i)] 0) :: (L2 + 1 + 1, oS) :: (L2 + 1, oF) :: ng) := nd_of_cn nd3 fun y => by simp only [cn_cons]; omega
      refine for_endT rfl F N hO nd4.off (.tail _ (.tail _ (.tail _ (.tail _ hSg)))) (by simp; omega) fun h' F' N' => ?_
      clear F N
      have e1 : rs.take i = rs := by
        have : i = rs.length := by rw [← hrs.1.length]; omega
        rw [this]; exact List.take_length
      rw [e1, ← hrows, rootG_rows hfit] at N' nd4
      k_steps
      subst eng evL evR
      refine hret _ ((Tre.node Nl tl tr gS).objs ++ news) _ _ (by k_asm) (news_sub (by k_asm) (sub_cc fun y => ?_)) ⟨Nl, tl, tr, rfl, rfl, nd_of_cn nd4 fun y => ?_, el', er'⟩
      · simp only [cc_cons, cc_append, Tre.objs]; omega
      · simp only [cn_cons, cn_append, Tre.objs]; omega
end
end
section -- ex
local macro_rules | `(tactic| walk_at "getMethod type:Exception") => `(tactic| (k_here; refine' method_type ?F ?X ?m (by decide +kernel) ?e ?h ?_; (case F | X => k_asm); (case m => exact type_of_exc); (case e => k_dflt k_is); (case h => k_handed)))
local macro_rules | `(tactic| walk_at "call builtin:Exception.__init__") => `(tactic| refine hold_any ?_)
local macro_rules | `(tactic| walk_at "setAttr ref") => `(tactic| refine hold_any ?_)
section -- E2
theorem off_E2 : True := by w_top off; exact trivial
section
variable (w : World) (p : Program) (loose : List Str) (mean : ExcName → Option Value) (mg mb : Str → Option Value) (news : List (Addr × Obj))
set_option maxRecDepth 100000 in
set_option maxHeartbeats 8000000 in
theorem C_finit (e t : Addr) (why : Str) (tw : Tok) (off : ∀ q ∈ news, q.1 ≠ e)
   : Con w p loose mean mg mb 35 [.ref e, .str why tw] 5 50 ((e, exc0 51 t none) :: news) (fun r nx => r = .none ∧ ∃ t' D x1 x2 t1 t2 n v2, nx = (D, dictOf [⟨x1, .str (Str.ofString "why") t1, .str why tw⟩, ⟨x2, .str (Str.ofString "at") t2, v2⟩] n) :: (e, exc0 51 t' (some D)) :: news ∧ (∀ q ∈ (e, exc0 51 t none) :: news, q.1 < D)) := by
  intro dp un gd cn cs a ccd cl outer A₀ base h₀ L m s Q E BB F X N TT hkk hd hu hret
  obtain ⟨cdM, hcM, hmM, hhM⟩ := mis_in (P := w.params)
  refine wpAny_call ?_
  first | k_dflt ktr_enter | fail "enter"
  rename_i gH L2 hH FG F2 N2 B2 X2 T2
  k_steps
  refine hold_off (exc_init PySem.F.excBase_Exception (mis_cls (X2.keeps F2.keep)) F2 N2 off fun t' h3 F3 N3 => ?_)
  clear F2 N2
  k_steps
  refine hold_off (exc_store1 X2 hcM hmM hhM mis_sa mis_why F3 N3 off fun D h4 tk4 tk4' F4 N4 lD => ?_)
  clear F3 N3
  have offD : ∀ q ∈ (e, exc0 51 t' (some D)) :: news, q.1 ≠ D := fun q hq => by
    rcases List.mem_cons.mp hq with rfl | hq
    · exact Nat.ne_of_lt (lD (e, exc0 51 t' none) (.head _))
    · exact Nat.ne_of_lt (lD _ (.tail _ hq))
  k_steps
  refine hold_off (exc_store2 X2 hcM hmM hhM mis_sa mis_at F4 N4 offD rfl (by simp) fun h5 tk5 tk5' F5 N5 => ?_)
  clear F4 N4
  k_steps
  refine hret _ _ _ _ (by k_asm) (by k_asm) ⟨rfl, t', D, _, _, _, _, _, _, rfl, fun q hq => ?_⟩
  rcases List.mem_cons.mp hq with rfl | hq
  · exact lD (e, exc0 51 t' none) (.head _)
  · exact lD _ (.tail _ hq)
end
end
section -- E4
local macro_rules | `(tactic| walk_at "idle line") => `(tactic| skip)
theorem off_E4 : True := by w_top off; exact trivial
inductive MsOut (why : Str) (tw : Tok) (news : List (Addr × Obj)) (rv : Value) (nx : List (Addr × Obj)) : Prop
  | mk (e D t : Addr) (x1 x2 : Int) (t1 t2 : Tok) (n : Nat) (v2 : Value) (f0 : rv = .ref e) (f1 : nx = (D, dictOf [⟨x1, .str (Str.ofString "why") t1, .str why tw⟩, ⟨x2, .str (Str.ofString "at") t2, v2⟩] n) :: (e, exc0 51 t (some D)) :: news) (f2 : (∀ q ∈ news, q.1 < e)) (f3 : (∀ q ∈ news, q.1 < D)) (f4 : e < D) : MsOut why tw news rv nx
theorem mis_weight (C : Addr) (a : List Value) : Code.weight (.builtin "type.__call__" ⟨.ref C :: a, []⟩) = 1 := rfl
theorem mis_units (a : List Value) : Code.cUnits (.builtin "type.__call__" ⟨a, []⟩) = 1 := by first | rfl | kernel_rfl
theorem mis_frames (a : List Value) : Code.envs (.builtin "type.__call__" ⟨a, []⟩) = [] := by first | rfl | kernel_rfl
section
variable (w : World) (p : Program) (loose : List Str) (mean : ExcName → Option Value) (mg mb : Str → Option Value) (news : List (Addr × Obj))
set_option maxRecDepth 100000 in
set_option maxHeartbeats 8000000 in
theorem C_mis (why : Str) (tw : Tok)
   : Con w p loose mean mg mb 51 [.str why tw] 10 100 news (MsOut why tw news) := by
  intro dp un gd cn cs a ccd cl outer A₀ base h₀ L m s Q E BB F X N TT hkk hd hu hret
  have XX := X.keeps F.keep
  obtain ⟨hi1, hi2⟩ := mis_init XX
  obtain ⟨oI, hfI, hfc⟩ := mis_fn XX
  obtain ⟨hp, gg, dr, tk, os⟩ := s
  dsimp only at F N XX hfI hi1 hi2
  refine call2 (PySem.F.excBase_Exception) (mis_cls XX) hi1 hi2 hfI hfc ?_ (by simp [sizeLine_eq])
  have F1 := (F.push (tup0 [.str why tw])).push (exc0 51 hp.objs.size none)
  have N1 := (N.push F (tup0 [.str why tw]))
  have N2 := News.push (o := exc0 51 hp.objs.size none) (F.push (tup0 [.str why tw])) (news_sub N1 fun q hq => .tail _ hq)
  have lt0 : ∀ q ∈ news, q.1 < hp.objs.size := fun q hq => Heap.lt_size (N q hq).1
  rw [Heap.size_push] at N2
  have hw := mis_weight 51 [.str why tw]
  have hun := mis_units (.ref 51 :: [.str why tw])
  have hen := mis_frames (.ref 51 :: [.str why tw])
  have C := C_finit w p loose mean mg mb news (hp.objs.size + 1) hp.objs.size why tw (fun q hq => Nat.ne_of_lt (Nat.lt_succ_of_lt (lt0 q hq))) (dp + Code.weight (.builtin "type.__call__" ⟨.ref 51 :: [.str why tw], []⟩)) (un + Code.cUnits (.builtin "type.__call__" ⟨.ref 51 :: [.str why tw], []⟩))
    (pushGuards (Code.guards (.builtin "type.__call__" ⟨.ref 51 :: [.str why tw], []⟩)) gd) cn cs a ccd cl outer A₀ base h₀ L m ⟨(hp.push (tup0 [.str why tw])).push (exc0 51 hp.objs.size none), gg, dr, tk, os⟩
    (fun r s' => r = .none ∧ Q (.ref (hp.objs.size + 1)) s') E BB F1 X N2 TT hkk (by rw [hw]; omega) (by omega) ?_
  · have e : (ktrTop dp un gd cn cs L a ccd cl outer).under (.builtin "type.__call__" ⟨.ref 51 :: [.str why tw], []⟩) = ktrTop (dp + Code.weight (.builtin "type.__call__" ⟨.ref 51 :: [.str why tw], []⟩)) (un + Code.cUnits (.builtin "type.__call__" ⟨.ref 51 :: [.str why tw], []⟩)) (pushGuards (Code.guards (.builtin "type.__call__" ⟨.ref 51 :: [.str why tw], []⟩)) gd) cn cs L a ccd cl outer := by
      unfold Around.under
      rw [hen]; rfl
    rw [e]
    exact C
  · rintro r news' h' tk' F' N' ⟨rfl, t', D, x1, x2, t1, t2, n, v2, rfl, lD⟩
    refine ⟨rfl, hret _ _ h' tk' F' N' ⟨_, D, t', x1, x2, t1, t2, n, v2, rfl, rfl, fun q hq => Nat.lt_succ_of_lt (lt0 q hq), fun q hq => lD q (.tail _ hq), lD _ (.head _)⟩⟩
end
end
section -- E5
theorem off_E5 : True := by w_top off; exact trivial
local macro_rules | `(tactic| walk_at "exec Raise some none") => `(tactic| refine hold_any ?_)
local macro_rules | `(tactic| walk_at "call ref") => `(tactic| (k_here; k_dflt (refine' con_use (C_mis _ _ _ _ _ _ _ _ _) ?k1 ?k2 ?k3 ?k4 ?k5 ?kK ?kd ?ku ?_; (case k1 | k2 | k3 | k4 | k5 => k_asm); (case kK => first | exact rfl | assumption); (case kd => ktr_room); (case ku => ktr_units); k_whole); intro r9 nx9 h9 tk9 F9 N9 O9; (try dsimp only at O9); obtain ⟨e9, D9, t9, x91, x92, u91, u92, n9, v92, q9, q8, l91, l92, l93⟩ := O9; subst q9; subst q8))
section
variable (w : World) (p : Program) (loose : List Str) (mean : ExcName → Option Value) (mg mb : Str → Option Value) (news : List (Addr × Obj))
set_option maxRecDepth 100000 in
set_option maxHeartbeats 8000000 in
theorem C_checkR (x y : Int) (k : Nat) (tb tn tk : Tok) (hb : Bad k x y) (hk9 : k ≤ 9)
   : ConR w p loose mean mg mb 60 [.int x tb, .int y tn, .int (k : Int) tk] 20 200 news := by
  intro dp un gd cn cs a ccd cl outer A₀ base h₀ L m s Q E BB F X N TT hkk hd hu hret
  refine wpAny_call ?_
  first | k_dflt ktr_enter | fail "enter"
  rename_i gH L2 hH FG F2 N2 B2 X2 T2
  k_steps
  rotate_right
  · exact (not_bad hb (by assumption) (by assumption) (by assumption) (by assumption)).elim
  all_goals (
    refine hold_off (Raise_2 (C := 51) (W := 38) (N := 50) rfl ?_)
    k_steps
    rename Fr gH L2 _ _ => F3
    rename News gH L2 _ _ => N3
    rename_i l1 l2 l3
    have NE := (N3 _ (.tail _ (.head _)))
    refine ⟨_, _, _, _, _, _, rfl, mis_cls (X2.keeps F3.keep), NE.1, ?_⟩
    have N4 := news_perm N3 (List.Perm.swap ..)
    refine leave_raise2 B2 F3 N4 (List.forall_mem_cons.mpr ⟨Nat.ne_of_gt l3, fun q hq => Nat.ne_of_lt (l1 q hq)⟩) rfl rfl rfl rfl rfl (fun h' R U hd => ?_) rfl
    exact hret _ _ _ _ _ _ _ _ _ _ _ _ FG R U hd fun q hq => Nat.ne_of_lt (l2 q hq))
end
end
section -- E6
theorem off_E6 : True := by w_top off; exact trivial
local macro_rules | `(tactic| walk_at "call ref") => `(tactic| (k_here; (with_reducible show wpAny _ _ (call (Value.ref 60) _) _ _ _); refine hold_any ?_))
section
variable {w : World} {p : Program} {loose : List Str} {mean : ExcName → Option Value} {mg mb : Str → Option Value} {f : Addr} {args : List Value} {fr us : Nat} {news : List (Addr × Obj)}
theorem conR_use {dp un : Nat} {gd : Option (List Code)} {cn : Str} {cs : Scope} {a : Addr} {ccd : Value} {cl : List (Str × Addr)} {outer : List Env} {A₀ : Around} {base h₀ : Heap} {L : Addr} {m : Str → Option Value} {s : Shared} {Q E : Value → Shared → Prop}
    (C : ConR w p loose mean mg mb f args fr us news) (B : Below A₀ base outer h₀) (F : Fr h₀ L s.heap m) (X : (Mine.hd.heap_1 w.params).In h₀) (N : News h₀ L s.heap news) (T : Top p loose mean mg mb h₀) (hk : cs.kind = .function)
    (hd : dp + fr < recursionLimit) (hu : un + us < cLine)
    (ret : ∀ e D x1 x2 t1 t2 tw n v2 G h' tk', Fr h₀ L G m → RaisedSN base G (envX cn cs L a ccd cl :: outer) e (.ref 51) ((D, dictOf [⟨x1, .str (Str.ofString "why") t1, .str (Str.ofString "no such prefix") tw⟩, ⟨x2, .str (Str.ofString "at") t2, v2⟩] n) :: news) h' →
      G.UpToSlots h' → HasDict h' e D → (∀ q ∈ news, q.1 ≠ D) → E (.ref e) { s with heap := h', toks := tk' }) :
    wpAny (model prog w) (ktrTop dp un gd cn cs L a ccd cl outer) (call (.ref f) args) Q E s :=
  C dp un gd cn cs a ccd cl outer A₀ base h₀ L m s Q E B F X N T hk hd hu ret
end
section
variable (w : World) (p : Program) (loose : List Str) (mean : ExcName → Option Value) (mg mb : Str → Option Value) (news : List (Addr × Obj))
set_option maxRecDepth 100000 in
set_option maxHeartbeats 8000000 in
theorem C_putR (R D : Addr) (eB eR : Int) (tB tR : Tok) (k : Nat) (tk : Tok) (c : Nat) (rv gv : Value) (x y : Int) (tb tn : Tok) (hb : Bad k x y) (hk9 : k ≤ 9)
   (hR : (R, instObj 138 D) ∈ news) (hD : (D, dictOf [⟨eB, .str (Str.ofString "bits") tB, .int (k : Int) tk⟩, ⟨eR, .str (Str.ofString "root") tR, rv⟩] c) ∈ news) :
   ConR w p loose mean mg mb 114 [.ref R, .int x tb, .int y tn, gv] 40 400 news := by
  intro dp un gd cn cs a ccd cl outer A₀ base h₀ L m s Q E BB F X N TT hkk hd hu hret
  refine wpAny_call ?_
  first | k_dflt ktr_enter | fail "enter"
  rename_i gH L2 hH FG F2 N2 B2 X2 T2
  k_steps
  rename Fr gH L2 _ _ => F3
  rename News gH L2 _ _ => N3
  refine hold_off (conR_use (C_checkR w p loose mean mg mb news x y k _ _ _ hb hk9) B2 F3 X2 N3 T2 rfl (by ktr_room) (by ktr_units) fun e D x1 x2 t1 t2 tw n v2 G h' tk' F4 R4 U4 hd4 offD => ?_)
  refine leave_on2 B2 F4 R4 U4 hd4 fun h5 R5 U5 hd5 => ?_
  exact hret _ _ _ _ _ _ _ _ _ _ _ _ FG R5 U5 hd5 offD
set_option maxRecDepth 100000 in
set_option maxHeartbeats 8000000 in
theorem C_dropR (R D : Addr) (eB eR : Int) (tB tR : Tok) (k : Nat) (tk : Tok) (c : Nat) (rv : Value) (x y : Int) (tb tn : Tok) (hb : Bad k x y) (hk9 : k ≤ 9)
   (hR : (R, instObj 138 D) ∈ news) (hD : (D, dictOf [⟨eB, .str (Str.ofString "bits") tB, .int (k : Int) tk⟩, ⟨eR, .str (Str.ofString "root") tR, rv⟩] c) ∈ news) :
   ConR w p loose mean mg mb 121 [.ref R, .int x tb, .int y tn] 40 400 news := by
  intro dp un gd cn cs a ccd cl outer A₀ base h₀ L m s Q E BB F X N TT hkk hd hu hret
  refine wpAny_call ?_
  first | k_dflt ktr_enter | fail "enter"
  rename_i gH L2 hH FG F2 N2 B2 X2 T2
  k_steps
  rename Fr gH L2 _ _ => F3
  rename News gH L2 _ _ => N3
  refine hold_off (conR_use (C_checkR w p loose mean mg mb news x y k _ _ _ hb hk9) B2 F3 X2 N3 T2 rfl (by ktr_room) (by ktr_units) fun e D x1 x2 t1 t2 tw n v2 G h' tk' F4 R4 U4 hd4 offD => ?_)
  refine leave_on2 B2 F4 R4 U4 hd4 fun h5 R5 U5 hd5 => ?_
  exact hret _ _ _ _ _ _ _ _ _ _ _ _ FG R5 U5 hd5 offD
end
end
end -- ex
section -- pre3
local macro_rules | `(tactic| walk_at "compareOp NotIn") => `(tactic| refine hold_any ?_)
local macro_rules | `(tactic| walk_at "call builtin:sorted") => `(tactic| refine hold_any ?_)
local macro_rules | `(tactic| walk_at "binaryOp Add ref ref") => `(tactic| refine hold_any ?_)
local macro_rules | `(tactic| walk_at "subscriptTail Name") => `(tactic| (k_here; (with_reducible show wpAny _ _ (subscriptTail _ _ (Value.ref _) (Value.int _ _)) _ _ _); (with_unfolding_all refine' item_tup ?k1 ?k2 ?k3 ?k4 ?k5 ?_; (case k1 => k_asm); (case k2 => with_reducible k_mem); (case k3 | k4 => decide); (case k5 => rfl); k_whole)))
section -- P8
local macro_rules | `(tactic| walk_at "idle line") => `(tactic| skip)
theorem off_P8 : True := by w_top off; exact trivial
inductive LsOut (k B n : Nat) (isPut : Bool) (rs : List Rw) (gv : Value) (news : List (Addr × Obj)) (rv : Value) (nx : List (Addr × Obj)) : Prop
  | mk (T Rn Du : Addr) (ws : List Value) (cw cd ct : Nat) (add : List (Addr × Obj)) (f0 : rv = .ref T) (f1 : nx = (Rn, listOf ws.toArray cw) :: (T, tupO #[.ref Rn, .ref Du] ct) :: (Du, listOf #[dueOf k B n isPut rs] cd) :: (add ++ news)) (f2 : Nd nx) (f3 : Rows (add ++ news) ws (newRows k B n isPut gv rs)) : LsOut k B n isPut rs gv news rv nx
section
variable (w : World) (p : Program) (loose : List Str) (mean : ExcName → Option Value) (mg mb : Str → Option Value) (news : List (Addr × Obj))
set_option maxRecDepth 100000 in
set_option maxHeartbeats 8000000 in
theorem C_listed (k B n : Nat) (isPut : Bool) (tB tn tk_1 : Tok) (S rowT : Addr) (vs : List Value) (c cr : Nat) (rs : List Rw) (gv : Value) (hk9 : k ≤ 9) (hB : B < 2 ^ k) (hn : n ≤ k)
   (hS : (S, listOf vs.toArray c) ∈ news) (hrs : Rows news vs rs) (hsr : Srt rs) (hlen : vs.length ≤ 11) (hrow : (rowT, tupO #[.int (B : Int) tB, .int (n : Int) tn, gv] cr) ∈ news) (hgv : GoalIn news gv) (hnd : Nd news) :
   Con w p loose mean mg mb 168 [.ref S, .bool isPut, .ref rowT, .int (k : Int) tk_1] 20 300 news
     (LsOut k B n isPut rs gv news) := by
  intro dp un gd cn cs ad ccd cl outer A₀ base h₀ L m s Q E BB F X N TT hkk hd hu hret
  refine wpAny_call ?_
  first | k_dflt ktr_enter | fail "enter"
  rename_i gH L2 hH tkH FG F2 B2 X2 T2 l1 oT oW oL dT dW dL N2
  have ne_of : ∀ j, ∀ q ∈ news, q.1 ≠ L2 + 1 + j := fun j q hq e => by have := l1 q hq; rw [e] at this; exact absurd this (Nat.not_lt.mpr (Nat.le_trans (Nat.le_succ _) (Nat.le_add_right _ _)))
  have a1 : ∀ q ∈ news, q.1 ≠ L2 + 1 := ne_of 0
  have a2 : ∀ q ∈ news, q.1 ≠ L2 + 1 + 1 := ne_of 1
  have a3 : ∀ q ∈ news, q.1 ≠ L2 + 1 + 1 + 1 := ne_of 2
  clear ne_of
  have hP : (2 : Int) ^ (k : Int).toNat = ((2 ^ k : Nat) : Int) := by simp
  k_steps
  rename_i h1 h2 h3 oN dN h4 h5 oW2 F3 N3 dW2
  obtain ⟨low, elow⟩ : ∃ low, low = lowOf k B n := ⟨_, rfl⟩
  obtain ⟨tW, dW3⟩ : ∃ t, oW2.data = .cell (some (.int (low : Int) t)) := by
    have e0 : ((k : Int) - (n : Int)).toNat = k - n := by omega
    have e1 : (B : Int).fmod (2 ^ ((k : Int) - (n : Int)).toNat) = ((B % 2 ^ (k - n) : Nat) : Int) := by
      have e3 : ((2 : Int) ^ (k - n)) = ((2 ^ (k - n) : Nat) : Int) := by simp
      rw [e0, e3, fmod_nat]
    have e2 : (B : Int) - ((B % 2 ^ (k - n) : Nat) : Int) = (low : Int) := by
      have := Nat.mod_le B (2 ^ (k - n))
      unfold lowOf at elow
      omega
    rw [e1, e2] at dW2
    exact ⟨_, dW2⟩
  clear dW2 hP
  have hsz : vs.toArray.size ≤ sizeLine := by rw [List.size_toArray, sizeLine_eq]; omega
  have hnw : ∀ q ∈ news, q ∈ ((L2 + 1 + 1 + 1, oT) :: (L2 + 1 + 1, oW2) :: (L2 + 1, oN) :: news) := fun q hq => .tail _ (.tail _ (.tail _ hq))
  obtain ⟨key, ekey0⟩ : ∃ key : Rw → Bool, key = keyAt k B n := ⟨_, rfl⟩
  have ekey : key = fun q => decide (q.b = low) && decide (q.l = n) := by rw [ekey0, elow]; rfl
  refine hold_off (wpAny_Assign_Name ?_ (by with_unfolding_all rfl))
  k_dflt (refine LCt.ListComp_T (F₀ := F3) (by with_unfolding_all rfl) (by decide) (by rfl) (by decide) (by rfl) ?_)
  k_steps
  refine LCt.CompSrcT.ledger rfl F3 N3 (hnw _ hS) hsz ?_
  intro g9
  refine compT_ind (fun i ys => RowsIn news ys ((rs.take i).filter key)) ?_ ?_ _ 0 [] (Nat.zero_add _) ?_
  · intro k9 i ys e9 hJ IH9
    refine LCt.CompRestT.succ ?_
    intro v I9 oI9 C9 oC9 D9 m9 h9 tk9 E9 hv hC hx F9 N9 off ne9
    obtain ⟨q, a, t1, t2, nn, hq, rfl, hm⟩ := hrs.1.get (v := v) (i := i) (by simpa using hv)
    have hend : ∀ ys', RowsIn news ys' ((rs.take i).filter key ++ [q].filter key) → RowsIn news ys' ((rs.take (i + 1)).filter key) := fun ys' h => by rw [take_snoc hq, List.filter_append]; exact h
    k_steps
    · rename_i c1 c2
      refine LCg.CompEnd.intro F9 N9 _ (fun _ h => h) off (Or.inr ⟨_, hnw _ hS, rfl, _, rfl⟩) (IH9 _ (hend _ ?_))
      have e : [q].filter key = [q] := by
        have c3 : q.b = low := by omega
        have c4 : q.l = n := by omega
        rw [ekey]; simp [c3, c4]
      rw [e]
      exact hJ.snoc hm
    · rename_i c1 c2
      refine LCg.CompEnd.intro F9 N9 _ (fun _ h => h) off (Or.inr ⟨_, hnw _ hS, rfl, _, rfl⟩) (IH9 _ (hend _ ?_))
      have e : [q].filter key = [] := by
        have c4 : ¬ q.l = n := by omega
        rw [ekey]; simp [c4]
      rw [e, List.append_nil]
      exact hJ
    · rename_i c1
      refine LCg.CompEnd.intro F9 N9 _ (fun _ h => h) off (Or.inr ⟨_, hnw _ hS, rfl, _, rfl⟩) (IH9 _ (hend _ ?_))
      have e : [q].filter key = [] := by
        have c4 : ¬ q.b = low := by omega
        rw [ekey]; simp [c4]
      rw [e, List.append_nil]
      exact hJ
  · intro ys hJ
    clear F3 N3
    obtain ⟨th, eth⟩ : ∃ th, th = rs.filter key := ⟨_, rfl⟩
    have hTh : Rows news ys th := by
      have e1 : rs.take vs.toArray.size = rs := by
        rw [List.size_toArray, hrs.1.length]; exact List.take_length
      rw [e1] at hJ
      rw [eth]
      exact ⟨hJ, fun q hq => hrs.2 q (List.mem_filter.mp hq).1⟩
    k_steps
    rename_i Th h6 t6 o6 h7 oTh F7 N7 dTh
    have hnw7 : ∀ q ∈ news, q ∈ ((Th, LCg.lst ys) :: (L2 + 1 + 1 + 1, oTh) :: (L2 + 1 + 1, oW2) :: (L2 + 1, oN) :: news) := fun q hq => .tail _ (hnw _ hq |> fun h => by
      rcases List.mem_cons.mp h with h | h
      · exact .tail _ (.tail _ (.tail _ hq))
      · exact .tail _ h)
    refine hold_off ?_
    k_dflt (refine LCt.Assign_ListComp_T (F₀ := F7) (by rfl) (by with_unfolding_all rfl) (by with_unfolding_all rfl) (by decide) (by rfl) (by decide) (by rfl) (by rfl) (by rfl) ?_)
    k_steps
    refine LCt.CompSrcT.ledger rfl F7 N7 (hnw7 _ hS) hsz ?_
    intro g10
    refine compT_ind (fun i zs => RowsIn news zs ((rs.take i).filter fun q => !key q)) ?_ ?_ _ 0 [] (Nat.zero_add _) .nil
    · intro k9 i zs e9 hJ2 IH9
      refine LCt.CompRestT.succ ?_
      intro v I9 oI9 C9 oC9 D9 m9 h9 tk9 E9 hv hC hx F9 N9 off ne9
      obtain ⟨q, a, t1, t2, nn, hq, rfl, hm⟩ := hrs.1.get (v := v) (i := i) (by simpa using hv)
      have hend : ∀ ys', RowsIn news ys' ((rs.take i).filter (fun q => !key q) ++ [q].filter fun q => !key q) → RowsIn news ys' ((rs.take (i + 1)).filter fun q => !key q) := fun ys' h => by rw [take_snoc hq, List.filter_append]; exact h
      have hq1 : Rows news [.ref a] [q] := ⟨.cons hm .nil, fun y hy => by rw [List.mem_singleton.mp hy]; exact hrs.2 q (List.mem_of_getElem? hq)⟩
      k_steps
      refine hold_off (notin_rows (n := ys.length) (c := key q) N9 (.tail _ (.tail _ (.tail _ (.head _)))) hTh hq1 (fun y hy => .tail _ (.tail _ (.tail _ (hnw7 y hy)))) (by ktr_units) ?_ ?_ ?_)
      · intro h
        rw [eth]
        exact List.mem_filter.mpr ⟨List.mem_of_getElem? hq, h⟩
      · intro h y hy e
        rw [eth] at hy
        have hy2 := (List.mem_filter.mp hy).2
        rw [ekey] at h hy2
        simp only [Bool.and_eq_true, decide_eq_true_eq] at hy2
        simp only [Bool.and_eq_false_iff, decide_eq_false_iff_not] at h
        omega
      · cases hk : key q with
        | true =>
          k_steps
          refine LCg.CompEnd.intro F9 N9 _ (fun _ h => h) off (Or.inr ⟨_, hnw7 _ hS, rfl, _, rfl⟩) (IH9 _ (hend _ ?_))
          have e : [q].filter (fun q => !key q) = [] := by simp [hk]
          rw [e, List.append_nil]
          exact hJ2
        | false =>
          k_steps
          refine LCg.CompEnd.intro F9 N9 _ (fun _ h => h) off (Or.inr ⟨_, hnw7 _ hS, rfl, _, rfl⟩) (IH9 _ (hend _ ?_))
          have e : [q].filter (fun q => !key q) = [q] := by simp [hk]
          rw [e]
          exact hJ2.snoc hm
    · intro zs hJ2
      clear F7 N7
      obtain ⟨re, ere⟩ : ∃ re, re = rs.filter fun q => !key q := ⟨_, rfl⟩
      have hRe : Rows news zs re := by
        have e1 : rs.take vs.toArray.size = rs := by
          rw [List.size_toArray, hrs.1.length]; exact List.take_length
        rw [e1] at hJ2
        rw [ere]
        exact ⟨hJ2, fun q hq => hrs.2 q (List.mem_filter.mp hq).1⟩
      have hyz : zs.length ≤ 11 := by
        rw [hRe.1.length, ere]
        have := List.length_filter_le (fun q => !key q) rs
        have := hrs.1.length
        omega
      k_steps
      · rename_i Re hA tA oA hput Tr hB lB Ls hC F8 N8 lC
        have hnw8 : ∀ q ∈ news, q ∈ ((Ls, listOf #[.ref Tr] 0) :: (Tr, tupO #[.int (low : Int) tW, .int (n : Int) tn, gv] 0) :: (Re, LCg.lst zs) :: (Th, LCg.lst ys) :: (L2 + 1 + 1 + 1, oTh) :: (L2 + 1 + 1, oW2) :: (L2 + 1, oN) :: news) := fun q hq => .tail _ (.tail _ (.tail _ (hnw7 q hq)))
        refine hold_off (add_rows F8 N8 (vs := zs) (ws := [.ref Tr]) (n := zs.length) (k := 0) (.tail _ (.tail _ (.head _))) (.head _) (by rw [List.length_singleton]; omega) fun Dc hc Fc Nc lc => ?_)
        have hsre : Srt re := by rw [ere]; exact hsr.filter _
        have hdre : ∀ q ∈ re, ¬ (q.b = low ∧ q.l = n) := fun q hq e => by
          rw [ere] at hq
          have h2 := (List.mem_filter.mp hq).2
          rw [ekey] at h2
          simp [e.1, e.2] at h2
        clear F8 N8
        k_steps
        refine hold_off (sorted_rows Fc Nc (vs := zs) (v := .ref Tr) (n := 0) (rs := re) (r := ⟨low, n, gv⟩) (n₁ := [(Tr, tupO #[.int (low : Int) tW, .int (n : Int) tn, gv] 0)] ++ news) (.head _) (fun q hq => by
          rcases List.mem_cons.mp hq with rfl | hq
          · exact .tail _ (.tail _ (.head _))
          · exact .tail _ (hnw8 q hq)) (hRe.1.mono fun q hq => .tail _ hq) (.cons (.head _) .nil) hsre hdre hyz fun Rn eR hR ws FR NR lR hws => ?_)
        clear Fc Nc
        k_steps
        rename_i Em hE FE NE lE
        have hnwE : ∀ q ∈ news, q ∈ ((Em, listOf #[] 0) :: (Rn, listOf ws.toArray eR) :: (Dc, listOf (zs ++ [Value.ref Tr]).toArray 0) :: (Ls, listOf #[.ref Tr] 0) :: (Tr, tupO #[.int (low : Int) tW, .int (n : Int) tn, gv] 0) :: (Re, LCg.lst zs) :: (Th, LCg.lst ys) :: (L2 + 1 + 1 + 1, oTh) :: (L2 + 1 + 1, oW2) :: (L2 + 1, oN) :: news) := fun q hq => .tail _ (.tail _ (.tail _ (hnw8 q hq)))
        have hws2 : Rows ([(Tr, tupO #[.int (low : Int) tW, .int (n : Int) tn, gv] 0)] ++ news) ws (newRows k B n isPut gv rs) := by
          have e9 : newRows k B n isPut gv rs = ins ⟨low, n, gv⟩ re := by
            rw [hput, newRows, if_pos rfl, ← elow, ← ekey0, ← ere]
          rw [e9]
          refine ⟨hws, fun q hq => ?_⟩
          rcases ins_mem.mp hq with rfl | hq
          · exact hgv.mono fun q hq => .tail _ hq
          · exact (hRe.2 q hq).mono fun q hq => .tail _ hq
        have edue : dueOf k B n isPut rs = headG th := by rw [hput, eth, ekey0]; rfl
        have n1 : Nd ((Tr, tupO #[.int (low : Int) tW, .int (n : Int) tn, gv] 0) :: news) := hnd.lt (tb_ltOf lB.2.2.2.2.2)
        have n2 : Nd ((Rn, listOf ws.toArray eR) :: (Tr, tupO #[.int (low : Int) tW, .int (n : Int) tn, gv] 0) :: news) := n1.lt (all_cons (lR (Tr, _) (.tail _ (.tail _ (.head _)))) fun q hq => lR q (.tail _ (hnw8 q hq)))
        refine hold_off (ne_nil_at (n := ys.length) NE (.tail _ (.tail _ (.tail _ (.tail _ (.tail _ (.tail _ (.head _))))))) (.head _) hTh hnwE (by ktr_units) ?_)
        cases th with
        | nil =>
          have hne : (!([] : List Rw).isEmpty) = false := rfl
          rw [hne]
          k_steps
          rename_i Du hD lD T hT FT NT lT kF kN kT kX
          have n3 : Nd ((Du, listOf #[.none] 0) :: (Rn, listOf ws.toArray eR) :: (Tr, tupO #[.int (low : Int) tW, .int (n : Int) tn, gv] 0) :: news) := n2.lt (all_cons lD.2.1 (all_cons lD.2.2.2.2.1 (tb_ltOf lD.2.2.2.2.2.2.2.2.2.2)))
          have n4 : Nd ((T, tupO #[.ref Rn, .ref Du] 0) :: (Du, listOf #[.none] 0) :: (Rn, listOf ws.toArray eR) :: (Tr, tupO #[.int (low : Int) tW, .int (n : Int) tn, gv] 0) :: news) := n3.lt (all_cons lT.1 (all_cons lT.2.2.1 (all_cons lT.2.2.2.2.2.1 (tb_ltOf lT.2.2.2.2.2.2.2.2.2.2.2))))
          refine hret _ ((Rn, listOf ws.toArray eR) :: (T, tupO #[.ref Rn, .ref Du] 0) :: (Du, listOf #[.none] 0) :: ([(Tr, tupO #[.int (low : Int) tW, .int (n : Int) tn, gv] 0)] ++ news)) _ _ (by k_asm) (news_sub (by k_asm) (sub_cc fun q => ?_)) ⟨T, Rn, Du, ws, eR, 0, 0, _, rfl, ?_, nd_of_cn n4 fun q => ?_, hws2⟩
          · simp only [cc_cons, cc_append, cc_nil, tupO]; omega
          · rw [edue]; rfl
          · simp only [cn_cons, cn_append, cn_nil]; omega
        | cons q0 th =>
          have hne : (!(q0 :: th).isEmpty) = true := rfl
          rw [hne]
          cases hTh.1 with
          | cons hm0 hr0 =>
            k_steps
            rename_i Du hD lD T hT FT NT lT kF kN kT kX
            have n3 : Nd ((Du, listOf #[q0.g] 0) :: (Rn, listOf ws.toArray eR) :: (Tr, tupO #[.int (low : Int) tW, .int (n : Int) tn, gv] 0) :: news) := n2.lt (all_cons lD.2.1 (all_cons lD.2.2.2.2.1 (tb_ltOf lD.2.2.2.2.2.2.2.2.2.2)))
            have n4 : Nd ((T, tupO #[.ref Rn, .ref Du] 0) :: (Du, listOf #[q0.g] 0) :: (Rn, listOf ws.toArray eR) :: (Tr, tupO #[.int (low : Int) tW, .int (n : Int) tn, gv] 0) :: news) := n3.lt (all_cons lT.1 (all_cons lT.2.2.1 (all_cons lT.2.2.2.2.2.1 (tb_ltOf lT.2.2.2.2.2.2.2.2.2.2.2))))
            refine hret _ ((Rn, listOf ws.toArray eR) :: (T, tupO #[.ref Rn, .ref Du] 0) :: (Du, listOf #[q0.g] 0) :: ([(Tr, tupO #[.int (low : Int) tW, .int (n : Int) tn, gv] 0)] ++ news)) _ _ (by k_asm) (news_sub (by k_asm) (sub_cc fun q => ?_)) ⟨T, Rn, Du, ws, eR, 0, 0, _, rfl, ?_, nd_of_cn n4 fun q => ?_, hws2⟩
            · simp only [cc_cons, cc_append, cc_nil, tupO]; omega
            · rw [edue]; rfl
            · simp only [cn_cons, cn_append, cn_nil]; omega
      · rename_i Re hA tA oA hput El hB F8 N8 lB
        have hnw8 : ∀ q ∈ news, q ∈ ((El, listOf #[] 0) :: (Re, LCg.lst zs) :: (Th, LCg.lst ys) :: (L2 + 1 + 1 + 1, oTh) :: (L2 + 1 + 1, oW2) :: (L2 + 1, oN) :: news) := fun q hq => .tail _ (.tail _ (hnw7 q hq))
        refine hold_off (ne_nil_at (n := ys.length) N8 (.tail _ (.tail _ (.head _))) (.head _) hTh hnw8 (by ktr_units) ?_)
        k_steps
        rename_i Du hD lD T hT FT NT lT kF kN kT kX
        have edue : dueOf k B n isPut rs = .bool (!th.isEmpty) := by rw [hput, eth, ekey0]; rfl
        have n1 : Nd ((Re, LCg.lst zs) :: news) := hnd.cons (off1_of oA.2.2.2.2)
        have n2 : Nd ((Du, listOf #[.bool (!th.isEmpty)] 0) :: (Re, LCg.lst zs) :: news) := n1.lt (all_cons lD.2.1 (tb_ltOf lD.2.2.2.2.2.2))
        have n3 : Nd ((T, tupO #[.ref Re, .ref Du] 0) :: (Du, listOf #[.bool (!th.isEmpty)] 0) :: (Re, LCg.lst zs) :: news) := n2.lt (all_cons lT.1 (all_cons lT.2.2.1 (tb_ltOf lT.2.2.2.2.2.2.2)))
        refine hret _ ((Re, listOf zs.toArray zs.length) :: (T, tupO #[.ref Re, .ref Du] 0) :: (Du, listOf #[.bool (!th.isEmpty)] 0) :: ([] ++ news)) _ _ (by k_asm) (news_sub (by k_asm) (sub_cc fun q => ?_)) ⟨T, Re, Du, zs, zs.length, 0, 0, [], rfl, ?_, nd_of_cn n3 fun q => ?_, ?_⟩
        · rw [show LCg.lst zs = listOf zs.toArray zs.length from rfl]; simp only [cc_cons, cc_append, cc_nil, tupO, List.nil_append]; omega
        · rw [edue]
        · simp only [cn_cons, cn_append, cn_nil]; omega
        · rw [hput, newRows, if_neg (by simp), ← ekey0, ← ere]
          exact hRe
  · exact .nil
end
end
section -- exd
local macro_rules | `(tactic| walk_at "call ref") => `(tactic| (k_here; (with_reducible show wpAny _ _ (call (Value.ref 114) _) _ _ _); refine hold_any ?_))
local macro_rules | `(tactic| walk_at "call ref") => `(tactic| (k_here; (with_reducible show wpAny _ _ (call (Value.ref 121) _) _ _ _); refine hold_any ?_))
section -- D1
theorem off_D1 : True := by w_top off; exact trivial
inductive DdOut (k n B : Nat) (a0 : Addr) (l0 r0 : Tre) (g0 : Value) (rest : List (Addr × Obj)) (rv : Value) (nx : List (Addr × Obj)) : Prop
  | mk (t' : Tre) (Ls : Addr) (f0 : rv = .ref Ls) (f1 : nx = (Ls, listOf #[.bool (!(Shp.get (pth k n B) (Tre.node a0 l0 r0 g0).er == .none))] 0) :: (t'.objs ++ rest)) (f2 : Nd nx) (f3 : t'.val = .ref a0) (f4 : t'.er = Shp.dropped (pth k n B) (Tre.node a0 l0 r0 g0).er) : DdOut k n B a0 l0 r0 g0 rest rv nx
inductive PdOut (k n B : Nat) (gv : Value) (a0 : Addr) (l0 r0 : Tre) (g0 : Value) (rest : List (Addr × Obj)) (rv : Value) (nx : List (Addr × Obj)) : Prop
  | mk (t' : Tre) (Ls : Addr) (f0 : rv = .ref Ls) (f1 : nx = (Ls, listOf #[Shp.get (pth k n B) (Tre.node a0 l0 r0 g0).er] 0) :: (t'.objs ++ rest)) (f2 : Nd nx) (f3 : t'.val = .ref a0) (f4 : t'.er = Shp.put (pth k n B) gv (Tre.node a0 l0 r0 g0).er) : PdOut k n B gv a0 l0 r0 g0 rest rv nx
section
variable (w : World) (p : Program) (loose : List Str) (mean : ExcName → Option Value) (mg mb : Str → Option Value) (rest : List (Addr × Obj))
set_option maxRecDepth 100000 in
set_option maxHeartbeats 8000000 in
theorem C_doneP (R D : Addr) (eB eR : Int) (tB tR : Tok) (k : Nat) (tkk : Tok) (c : Nat) (a0 : Addr) (l0 r0 : Tre) (g0 gv : Value) (B n : Nat) (tb tn : Tok) (rowT : Addr) (cr : Nat)
   (hR : (R, instObj 138 D) ∈ rest) (hD : (D, dictOf [⟨eB, .str (Str.ofString "bits") tB, .int (k : Int) tkk⟩, ⟨eR, .str (Str.ofString "root") tR, .ref a0⟩] c) ∈ rest)
   (hrow : (rowT, tupO #[.int (B : Int) tb, .int (n : Int) tn, gv] cr) ∈ rest)
   (hB : B < 2 ^ k) (hnk : n ≤ k) (hk9 : k ≤ 9) (hnd : Nd ((Tre.node a0 l0 r0 g0).objs ++ rest)) :
   Con w p loose mean mg mb 175 [.ref R, .bool true, .ref rowT] 60 500 ((Tre.node a0 l0 r0 g0).objs ++ rest)
     (PdOut k n B gv a0 l0 r0 g0 rest) := by
  intro dp un gd cn cs ad ccd cl outer A₀ base h₀ L m s Q E BB F X N TT hkk hd hu hret
  have hR' : (R, instObj 138 D) ∈ (Tre.node a0 l0 r0 g0).objs ++ rest := List.mem_append_right _ hR
  have hD' : (D, dictOf [⟨eB, .str (Str.ofString "bits") tB, .int (k : Int) tkk⟩, ⟨eR, .str (Str.ofString "root") tR, .ref a0⟩] c) ∈ (Tre.node a0 l0 r0 g0).objs ++ rest := List.mem_append_right _ hD
  have hrow' : (rowT, tupO #[.int (B : Int) tb, .int (n : Int) tn, gv] cr) ∈ (Tre.node a0 l0 r0 g0).objs ++ rest := List.mem_append_right _ hrow
  refine wpAny_call ?_
  first | k_dflt ktr_enter | fail "enter"
  rename_i gH L2 hH FG F2 N2 B2 X2 T2
  k_steps
  rename Fr gH L2 _ _ => F3
  rename News gH L2 _ _ => N3
  refine hold_off (con_use (C_put w p loose mean mg mb rest R D eB eR tB tR k tkk c a0 l0 r0 g0 gv B n tb tn hR hD hB hnk hk9 hnd) B2 F3 X2 N3 T2 rfl (by ktr_room) (by ktr_units) fun r4 nx4 h4 tk4 F4 N4 O4 => ?_)
  obtain ⟨t', rfl, nd4, hv, he, hr⟩ := O4
  subst hr
  clear F3 N3
  k_steps
  rename_i Ls h5 F5 N5 lL kF kN kT kX
  refine hret _ _ _ _ (by k_asm) (by k_asm) ⟨t', Ls, rfl, rfl, nd4.lt lL, hv, ?_⟩
  exact he
set_option maxRecDepth 100000 in
set_option maxHeartbeats 8000000 in
theorem C_doneD (R D : Addr) (eB eR : Int) (tB tR : Tok) (k : Nat) (tkk : Tok) (c : Nat) (a0 : Addr) (l0 r0 : Tre) (g0 gv : Value) (B n : Nat) (tb tn : Tok) (rowT : Addr) (cr : Nat)
   (hR : (R, instObj 138 D) ∈ rest) (hD : (D, dictOf [⟨eB, .str (Str.ofString "bits") tB, .int (k : Int) tkk⟩, ⟨eR, .str (Str.ofString "root") tR, .ref a0⟩] c) ∈ rest)
   (hrow : (rowT, tupO #[.int (B : Int) tb, .int (n : Int) tn, gv] cr) ∈ rest)
   (hB : B < 2 ^ k) (hnk : n ≤ k) (hk9 : k ≤ 9) (hnd : Nd ((Tre.node a0 l0 r0 g0).objs ++ rest)) :
   Con w p loose mean mg mb 175 [.ref R, .bool false, .ref rowT] 60 500 ((Tre.node a0 l0 r0 g0).objs ++ rest)
     (DdOut k n B a0 l0 r0 g0 rest) := by
  intro dp un gd cn cs ad ccd cl outer A₀ base h₀ L m s Q E BB F X N TT hkk hd hu hret
  have hR' : (R, instObj 138 D) ∈ (Tre.node a0 l0 r0 g0).objs ++ rest := List.mem_append_right _ hR
  have hD' : (D, dictOf [⟨eB, .str (Str.ofString "bits") tB, .int (k : Int) tkk⟩, ⟨eR, .str (Str.ofString "root") tR, .ref a0⟩] c) ∈ (Tre.node a0 l0 r0 g0).objs ++ rest := List.mem_append_right _ hD
  have hrow' : (rowT, tupO #[.int (B : Int) tb, .int (n : Int) tn, gv] cr) ∈ (Tre.node a0 l0 r0 g0).objs ++ rest := List.mem_append_right _ hrow
  refine wpAny_call ?_
  first | k_dflt ktr_enter | fail "enter"
  rename_i gH L2 hH FG F2 N2 B2 X2 T2
  k_steps
  rename Fr gH L2 _ _ => F3
  rename News gH L2 _ _ => N3
  refine hold_off (con_use (C_drop w p loose mean mg mb rest R D eB eR tB tR k tkk c a0 l0 r0 g0 B n tb tn hR hD hB hnk hk9 hnd) B2 F3 X2 N3 T2 rfl (by ktr_room) (by ktr_units) fun r4 nx4 h4 tk4 F4 N4 O4 => ?_)
  obtain ⟨t', rfl, nd4, hv, hr, he⟩ := O4
  subst hr
  clear F3 N3
  k_steps
  rename_i Ls h5 F5 N5 lL kF kN kT kX
  refine hret _ _ _ _ (by k_asm) (by k_asm) ⟨t', Ls, rfl, rfl, nd4.lt lL, hv, ?_⟩
  rw [he]; unfold Shp.dropped; rfl
end
end
section -- D2
theorem off_D2 : True := by w_top off; exact trivial
local macro_rules | `(tactic| ktr_enter) => `(tactic| (refine' code_defT ?k1 ?k2 ?k3 ?k4 ?k5 ?kA ?kF ?kK ?k6 ?k7 ?k8 ?k9 ?kB ?_ ?c2 ?c3 ?c4 ?c5; (case kA => exact rfl); (case kF => exact rfl); (case kK => first | assumption | exact rfl); (case k1 => k_asm); (case k2 => k_asm); (case k3 => k_asm); (case k4 => k_asm); (case k5 => k_asm); (case k6 => k_is); (case c5 => decide); (case k7 => k_is); (case k8 => ktr_room); (case k9 => exact BindsTo.of_eq rfl); (case kB => exact locs rfl); (case c2 => exact rfl); (case c3 => exact rfl); (case c4 => exact rfl); k_whole; intro g' L' h' FG' F' N' B' X' T' D'; (try dsimp only); (try k_fold)))
local macro_rules | `(tactic| walk_at "getAttr ref") => `(tactic| (k_here; (with_reducible show wpAny _ _ (getAttr (Value.ref _) ("why" : Str) _) _ _ _); refine hold_any ?_))
theorem why_obj {P : Params} {x1 x2 : Int} {t1 t2 tw : Tok} {n : Nat} {v2 : Value} {why : Str} : findObj (Mine.hd.heap_1 P) 51 (some (dictOf [⟨x1, .str (Str.ofString "why") t1, .str why tw⟩, ⟨x2, .str (Str.ofString "at") t2, v2⟩] n)) "why" = some (.value (.str why tw)) := by first | rfl | with_unfolding_all rfl | kernel_rfl
theorem ex_mis {P : Params} : nsIn (Mine.hd.heap_1 P) mainGlobals "Misused" = some (some (.ref 51)) := by first | rfl | with_unfolding_all rfl | kernel_rfl
theorem kts_mis {P : Params} : ktsIn (Mine.hd.heap_1 P) 51 "BaseException" = true := by first | rfl | with_unfolding_all rfl | kernel_rfl
section
variable (w : World) (p : Program) (loose : List Str) (mean : ExcName → Option Value) (mg mb : Str → Option Value) (news : List (Addr × Obj))
set_option maxRecDepth 100000 in
set_option maxHeartbeats 8000000 in
theorem C_doneR (isPut : Bool) (R D : Addr) (eB eR : Int) (tB tR : Tok) (k : Nat) (tkk : Tok) (c : Nat) (rv gv : Value) (x y : Int) (tb tn : Tok) (rowT : Addr) (cr : Nat) (hb : Bad k x y) (hk9 : k ≤ 9)
   (hR : (R, instObj 138 D) ∈ news) (hD : (D, dictOf [⟨eB, .str (Str.ofString "bits") tB, .int (k : Int) tkk⟩, ⟨eR, .str (Str.ofString "root") tR, rv⟩] c) ∈ news)
   (hrow : (rowT, tupO #[.int x tb, .int y tn, gv] cr) ∈ news) :
   ConT w p loose mean mg mb 175 [.ref R, .bool isPut, .ref rowT] 60 500 news (fun r nx => (∃ tw, r = .str (Str.ofString "no such prefix") tw) ∧ nx = news) := by
  intro dp un gd cn cs ad ccd cl A₀ h₀ L m s Q E BB F X N TT hkk hd hu hret
  refine wpAny_call ?_
  first | k_dflt ktr_enter | fail "enter"
  rename_i gH L2 hH FG F2 N2 B2 X2 T2 D2
  cases isPut
  · k_steps
    rename Fr gH L2 _ _ => F3
    rename News gH L2 _ _ => N3
    refine hold_off (conR_use (C_dropR w p loose mean mg mb news R D eB eR tB tR k tkk c rv x y tb tn hb hk9 hR hD) B2 F3 X2 N3 T2 rfl (by ktr_room) (by ktr_units) fun e De x1 x2 t1 t2 tw n v2 G h' tk' F4 R4 U4 hd4 offD => ?_)
    refine caught2 R4 hd4 F4 B2 U4 X TT D2 KtsTurn.refl ex_mis kts_mis (fun h5 g5 tk5 oe T5 F5 N5 ce ne de B5 X5 P5 D5 => ?_) rfl rfl rfl (by decide)
    k_steps
    obtain ⟨cdM, hcM, hmM, hhM⟩ := mis_in (P := w.params)
    have IE : PySem.W.InstAt h5 e oe 51 (some (dictOf [⟨x1, .str (Str.ofString "why") t1, .str (Str.ofString "no such prefix") tw⟩, ⟨x2, .str (Str.ofString "at") t2, v2⟩] n)) := ⟨(N5 _ (.head _)).1, ce, ne, by rw [de]; exact (N5 _ (.tail _ (.head _))).1⟩
    refine hold_off (exc_get (X5.keeps F5.keep) IE hcM hmM mis_ga mis_gh why_obj (by rfl) ?_)
    k_steps
    exact hret _ news _ _ (by k_asm) (news_sub (by k_asm) fun q hq => .tail _ (.tail _ hq)) ⟨⟨_, rfl⟩, rfl⟩
  · k_steps
    rename Fr gH L2 _ _ => F3
    rename News gH L2 _ _ => N3
    refine hold_off (conR_use (C_putR w p loose mean mg mb news R D eB eR tB tR k tkk c rv gv x y tb tn hb hk9 hR hD) B2 F3 X2 N3 T2 rfl (by ktr_room) (by ktr_units) fun e De x1 x2 t1 t2 tw n v2 G h' tk' F4 R4 U4 hd4 offD => ?_)
    refine caught2 R4 hd4 F4 B2 U4 X TT D2 KtsTurn.refl ex_mis kts_mis (fun h5 g5 tk5 oe T5 F5 N5 ce ne de B5 X5 P5 D5 => ?_) rfl rfl rfl (by decide)
    k_steps
    obtain ⟨cdM, hcM, hmM, hhM⟩ := mis_in (P := w.params)
    have IE : PySem.W.InstAt h5 e oe 51 (some (dictOf [⟨x1, .str (Str.ofString "why") t1, .str (Str.ofString "no such prefix") tw⟩, ⟨x2, .str (Str.ofString "at") t2, v2⟩] n)) := ⟨(N5 _ (.head _)).1, ce, ne, by rw [de]; exact (N5 _ (.tail _ (.head _))).1⟩
    refine hold_off (exc_get (X5.keeps F5.keep) IE hcM hmM mis_ga mis_gh why_obj (by rfl) ?_)
    k_steps
    exact hret _ news _ _ (by k_asm) (news_sub (by k_asm) fun q hq => .tail _ (.tail _ hq)) ⟨⟨_, rfl⟩, rfl⟩
end
end
end -- exd
section -- D3
theorem off_D3 : True := by w_top off; exact trivial
inductive SgOut (k : Nat) (news : List (Addr × Obj)) (rv : Value) (nx : List (Addr × Obj)) : Prop
  | mk (D : Addr) (x y : Int) (tx ty : Tok) (f0 : rv = .ref D) (f1 : nx = (D, tupO #[.int x tx, .int y ty] 0) :: news) (f2 : Bad k x y) (f3 : (∀ q ∈ news, q.1 < D)) : SgOut k news rv nx
/-- the five goals are picked by a remainder -/
theorem fmod5 (wh : Int) : ∃ r : Nat, r < 5 ∧ wh.fmod 5 = (r : Int) := by
  have h1 : wh.fmod 5 = wh % 5 := Int.fmod_eq_emod_of_nonneg _ (by decide)
  have h2 := Int.emod_nonneg wh (by decide : (5 : Int) ≠ 0)
  have h3 := Int.emod_lt_of_pos wh (by decide : (0 : Int) < 5)
  exact ⟨(wh % 5).toNat, by omega, by rw [h1]; omega⟩
theorem not_bad2 {k : Nat} {x y : Int} (hb : Bad k x y) (h1 : ¬ x < 0) (h2 : ¬ 2 ^ (k : Int).toNat ≤ x) (h3 : ¬ y < 0) (h4 : ¬ (k : Int) < y) : False := by
  have e3 : ((2 : Int) ^ ((k : Int).toNat)) = 2 ^ k := by simp
  rw [e3] at h2
  unfold Bad at hb
  generalize (2 : Int) ^ k = M at hb h2
  omega
section
variable (w : World) (p : Program) (loose : List Str) (mean : ExcName → Option Value) (mg mb : Str → Option Value) (news : List (Addr × Obj))
set_option maxRecDepth 100000 in
set_option maxHeartbeats 8000000 in
theorem C_goalI (wh : Int) (k : Nat) (tw tk_1 : Tok) :
   Con w p loose mean mg mb 156 [.int wh tw, .int (k : Int) tk_1] 10 100 news (fun rv nx => ∃ add, nx = add ++ news ∧ (Nd news → Nd nx) ∧ GoalIn add rv) := by
  intro dp un gd cn cs a ccd cl outer A₀ base h₀ L m s Q E BB F X N TT hkk hd hu hret
  obtain ⟨r5, h5, e5⟩ := fmod5 wh
  refine wpAny_call ?_
  first | k_dflt ktr_enter | fail "enter"
  k_steps
  rename_i D0 g0 l0 D1 g1 l1 D2 g2 l2 D3 g3 l3 ll g4 F1 N1 lL
  have h5 : r5 = 0 ∨ r5 = 1 ∨ r5 = 2 ∨ r5 = 3 ∨ r5 = 4 := by omega
  rcases h5 with h5 | h5 | h5 | h5 | h5
  · refine item_at N1 (.head _) (by rw [e5]; omega) (by rw [e5]; omega) (v := .ref D0) (by rw [e5, h5]; rfl) ?_
    k_steps
    refine hret _ ([_] ++ news) _ _ (by k_asm) (news_pick (by k_asm) (.tail _ (.tail _ (.tail _ (.tail _ (.head _))))) fun q h => .tail _ (.tail _ (.tail _ (.tail _ (.tail _ h))))) ⟨_, rfl, fun nd => nd.lt l0, _, .tuple (.head _) (.cons (.str _ _) (.cons (.int _ _) (.cons .none .nil))), by simp [kqdOk]; decide +kernel, by simp⟩
  · refine item_at N1 (.head _) (by rw [e5]; omega) (by rw [e5]; omega) (v := _) (by rw [e5, h5]; rfl) ?_
    k_steps
    exact hret _ ([] ++ news) _ _ (by k_asm) (news_sub (by k_asm) fun q h => .tail _ (.tail _ (.tail _ (.tail _ (.tail _ h))))) ⟨[], rfl, fun nd => nd, _, .int _ _, rfl, by simp⟩
  · refine item_at N1 (.head _) (by rw [e5]; omega) (by rw [e5]; omega) (v := .ref D1) (by rw [e5, h5]; rfl) ?_
    k_steps
    refine hret _ ([_] ++ news) _ _ (by k_asm) (news_pick (by k_asm) (.tail _ (.tail _ (.tail _ (.head _)))) fun q h => .tail _ (.tail _ (.tail _ (.tail _ (.tail _ h))))) ⟨_, rfl, fun nd => nd.lt (tb_ltOf l1.2), _, .tuple (.head _) (.cons (.str _ _) (.cons (.int _ _) (.cons (.int _ _) .nil))), by simp [kqdOk]; decide +kernel, by simp⟩
  · refine item_at N1 (.head _) (by rw [e5]; omega) (by rw [e5]; omega) (v := .ref D2) (by rw [e5, h5]; rfl) ?_
    k_steps
    refine hret _ ([_] ++ news) _ _ (by k_asm) (news_pick (by k_asm) (.tail _ (.tail _ (.head _))) fun q h => .tail _ (.tail _ (.tail _ (.tail _ (.tail _ h))))) ⟨_, rfl, fun nd => nd.lt (tb_ltOf l2.2.2), _, .tuple (.head _) (.nil), rfl, by simp⟩
  · refine item_at N1 (.head _) (by rw [e5]; omega) (by rw [e5]; omega) (v := .ref D3) (by rw [e5, h5]; rfl) ?_
    k_steps
    refine hret _ ([_] ++ news) _ _ (by k_asm) (news_pick (by k_asm) (.tail _ (.head _)) fun q h => .tail _ (.tail _ (.tail _ (.tail _ (.tail _ h))))) ⟨_, rfl, fun nd => nd.lt (tb_ltOf l3.2.2.2), _, .tuple (.head _) (.cons (.str _ _) (.cons (.int _ _) (.cons (.int _ _) .nil))), by simp [kqdOk]; decide +kernel, by simp⟩
theorem fmod_pos (x : Int) (m : Nat) (hm : 0 < m) : ∃ r : Nat, r < m ∧ x.fmod (m : Int) = (r : Int) := by
  have h1 : x.fmod (m : Int) = x % (m : Int) := Int.fmod_eq_emod_of_nonneg _ (Int.natCast_nonneg m)
  have h2 := Int.emod_nonneg x (by omega : (m : Int) ≠ 0)
  have h3 := Int.emod_lt_of_pos x (by omega : (0 : Int) < (m : Int))
  exact ⟨(x % (m : Int)).toNat, by omega, by rw [h1]; omega⟩
set_option maxRecDepth 100000 in
set_option maxHeartbeats 8000000 in
theorem C_strangeI (a b c : Int) (k : Nat) (ta tb tc tk_1 : Tok) (hk9 : k ≤ 9) :
   Con w p loose mean mg mb 163 [.int a ta, .int b tb, .int c tc, .int (k : Int) tk_1] 10 100 news
    (SgOut k news) := by
  intro dp un gd cn cs ad ccd cl outer A₀ base h₀ L m s Q E BB F X N TT hkk hd hu hret
  have e3 : ((2 : Int) ^ ((k : Int).toNat)) = ((2 ^ k : Nat) : Int) := by simp
  obtain ⟨r1, h1, q1⟩ := fmod_pos b (2 ^ k) (Nat.pos_of_ne_zero (by simp))
  obtain ⟨r2, h2, q2⟩ := fmod_pos (a.fdiv 16) (k + 1) (Nat.succ_pos _)
  have e4 : ((k + 1 : Nat) : Int) = (k : Int) + 1 := by simp
  rw [e4] at q2
  rw [← e3] at q1
  have e5 : ((2 : Int) ^ k) = ((2 ^ k : Nat) : Int) := by simp
  refine wpAny_call ?_
  first | k_dflt ktr_enter | fail "enter"
  k_steps
  all_goals refine hret _ _ _ _ (by k_asm) (by k_asm) ⟨_, _, _, _, _, rfl, rfl, ?_, by assumption⟩
  all_goals (rw [q1, q2]; unfold Bad)
  · left; omega
  · right; left
    rw [e3, e5]; omega
  · right; right; left; omega
  · right; right; right; omega
set_option maxRecDepth 100000 in
set_option maxHeartbeats 8000000 in
theorem C_listedR (x y : Int) (k : Nat) (isPut : Bool) (tB tn tk_1 : Tok) (S rowT : Addr) (vs : List Value) (c cr : Nat) (gv : Value) (hk9 : k ≤ 9) (hb : Bad k x y)
   (hS : (S, listOf vs.toArray c) ∈ news) (hrow : (rowT, tupO #[.int x tB, .int y tn, gv] cr) ∈ news) :
   Con w p loose mean mg mb 168 [.ref S, .bool isPut, .ref rowT, .int (k : Int) tk_1] 20 300 news
     (fun rv nx => ∃ T tw, rv = .ref T ∧ nx = (T, tupO #[.ref S, .str (Str.ofString "no such prefix") tw] 0) :: news ∧ ∀ q ∈ news, q.1 < T) := by
  intro dp un gd cn cs a ccd cl outer A₀ base h₀ L m s Q E BB F X N TT hkk hd hu hret
  refine wpAny_call ?_
  first | k_dflt ktr_enter | fail "enter"
  rename_i gH L2 hH tkH FG F2 B2 X2 T2 l1 oT oW oL dT dW dL N2
  have ne_of : ∀ j, ∀ q ∈ news, q.1 ≠ L2 + 1 + j := fun j q hq e => by have := l1 q hq; rw [e] at this; exact absurd this (Nat.not_lt.mpr (Nat.le_trans (Nat.le_succ _) (Nat.le_add_right _ _)))
  have a1 : ∀ q ∈ news, q.1 ≠ L2 + 1 := ne_of 0
  have a2 : ∀ q ∈ news, q.1 ≠ L2 + 1 + 1 := ne_of 1
  have a3 : ∀ q ∈ news, q.1 ≠ L2 + 1 + 1 + 1 := ne_of 2
  clear ne_of
  k_steps
  rotate_right
  · exact (not_bad2 hb (by assumption) (by assumption) (by assumption) (by assumption)).elim
  all_goals (
    rename_i D9 h9 F9 N9 l9 kF kN kT kX
    refine hret _ ((D9, tupO #[.ref S, .str (Str.ofString "no such prefix") tk] 0) :: news) _ _ kF (news_sub kN fun q hq => ?_) ⟨D9, tk, rfl, rfl, tb_ltOf l9.2.2.2⟩
    rcases List.mem_cons.mp hq with rfl | hq
    · exact .head _
    · exact .tail _ (.tail _ (.tail _ (.tail _ hq))))
end
end
section -- Law1
/-- a fact laid out of the walk's sight -/
inductive Box (P : Prop) : Prop
  | mk : P → Box P
inductive DnOut (k B n : Nat) (isPut : Bool) (gv : Value) (a0 : Addr) (l0 r0 : Tre) (g0 : Value) (rest : List (Addr × Obj)) (rv : Value) (nx : List (Addr × Obj)) : Prop
  | mk (l' r' : Tre) (g' : Value) (Ls : Addr) (f0 : rv = .ref Ls) (f1 : nx = (Ls, listOf #[dueOf k B n isPut (rowsS (Tre.node a0 l0 r0 g0).er k 0 0)] 0) :: ((Tre.node a0 l' r' g').objs ++ rest)) (f2 : Nd nx) (f3 : (Tre.node a0 l' r' g').er.fit k) (f4 : (Tre.node a0 l' r' g').er.tight) (f5 : rowsS (Tre.node a0 l' r' g').er k 0 0 = newRows k B n isPut gv (rowsS (Tre.node a0 l0 r0 g0).er k 0 0)) : DnOut k B n isPut gv a0 l0 r0 g0 rest rv nx
theorem Box.out {P : Prop} : Box P → P
  | .mk h => h
theorem goal_ne {l : List (Addr × Obj)} {v : Value} (h : GoalIn l v) : v ≠ .none := by
  rintro rfl
  obtain ⟨d, h1, _, h3⟩ := h
  cases h1
  exact h3 rfl
theorem due_dat {l : List (Addr × Obj)} {rs : List Rw} {k B n : Nat} {b : Bool} (h : ∀ q ∈ rs, GoalIn l q.g) : (∃ b', dueOf k B n b rs = .bool b') ∨ ∃ d, DatIn l (dueOf k B n b rs) d ∧ kqdOk 8 d = true := by
  unfold dueOf
  split
  · cases hf : rs.filter (keyAt k B n) with
    | nil => exact .inr ⟨_, .none, rfl⟩
    | cons q t =>
      have hq : q ∈ rs := (List.mem_filter.mp (hf ▸ List.Mem.head _)).1
      obtain ⟨d, h1, h2, _⟩ := h q hq
      exact .inr ⟨d, h1, kqdOk_mono h2 (by omega)⟩
  · exact .inl ⟨_, rfl⟩
section
variable {prog : Program} {w : World} {A : Around} {Q : Value → Shared → Prop} {E : Value → Shared → Prop} {s : Shared} {h₀ : Heap} {L : Addr} {news : List (Addr × Obj)}
theorem ne_one {x y : Addr} {n k : Nat} {v : Value} (N : News h₀ L s.heap news) (mx : (x, listOf #[v] n) ∈ news) (my : (y, listOf #[v] k) ∈ news) (hv : (∃ b, v = .bool b) ∨ ∃ d, DatIn news v d ∧ kqdOk 8 d = true) (hu : A.units + 64 < cLine) (h : Q (.bool false) s) :
    wpAny (model prog w) A (compareOp .NotEq (.ref x) (.ref y)) Q E s := by
  rcases hv with ⟨b, rfl⟩ | ⟨d, d1, ok⟩
  · have r : ∀ {z : Addr} {c : Nat}, (z, listOf #[.bool b] c) ∈ news → ∃ as, Reads s.heap (.ref z) (.list [.bool b]) as := fun hm => ⟨_, reads_list_at (N.get hm) rfl rfl (by simpa [W.listOf] using ReadsAll.cons (Reads.bool b) ReadsAll.nil)⟩
    obtain ⟨as, r1⟩ := r mx
    obtain ⟨bs, r2⟩ := r my
    exact ne_same r1 r2 (by cases b <;> decide) hu h
  have ok9 : kqdOk 9 (.list [d]) = true := by simpa [kqdOk] using ok
  obtain ⟨as, r1⟩ := kqd_in N 9 (.list (vs := [v]) mx (.cons d1 .nil)) ok9
  obtain ⟨bs, r2⟩ := kqd_in N 9 (.list (vs := [v]) my (.cons d1 .nil)) ok9
  exact ne_same r1 r2 (kqd_shaped ok9 (by omega)) hu h
end
section
variable (w : World) (p : Program) (loose : List Str) (mean : ExcName → Option Value) (mg mb : Str → Option Value) (rest : List (Addr × Obj))
theorem C_done (isPut : Bool) (R D : Addr) (eB eR : Int) (tB tR : Tok) (k : Nat) (tkk : Tok) (c : Nat) (a0 : Addr) (l0 r0 : Tre) (g0 gv : Value) (B n : Nat) (tb tn : Tok) (rowT : Addr) (cr : Nat)
   (hR : (R, instObj 138 D) ∈ rest) (hD : (D, dictOf [⟨eB, .str (Str.ofString "bits") tB, .int (k : Int) tkk⟩, ⟨eR, .str (Str.ofString "root") tR, .ref a0⟩] c) ∈ rest)
   (hrow : (rowT, tupO #[.int (B : Int) tb, .int (n : Int) tn, gv] cr) ∈ rest)
   (hB : B < 2 ^ k) (hnk : n ≤ k) (hk9 : k ≤ 9) (hnd : Nd ((Tre.node a0 l0 r0 g0).objs ++ rest)) (hf : (Tre.node a0 l0 r0 g0).er.fit k) (ht : (Tre.node a0 l0 r0 g0).er.tight) (hg : gv ≠ .none) :
   Con w p loose mean mg mb 175 [.ref R, .bool isPut, .ref rowT] 60 500 ((Tre.node a0 l0 r0 g0).objs ++ rest)
     (DnOut k B n isPut gv a0 l0 r0 g0 rest) := by
  have hP : (pth k n B).length ≤ k := by rw [pth_len]; exact hnk
  intro dp un gd cn cs a ccd cl outer A₀ base h₀ L m s Q E BB F X N TT hkk hd hu hret
  cases isPut with
  | true =>
    refine C_doneP w p loose mean mg mb rest R D eB eR tB tR k tkk c a0 l0 r0 g0 gv B n tb tn rowT cr hR hD hrow hB hnk hk9 hnd dp un gd cn cs a ccd cl outer A₀ base h₀ L m s Q E BB F X N TT hkk hd hu fun r nx h tk F' N' O => hret r nx h tk F' N' ?_
    obtain ⟨t', Ls, rfl, rfl, nd', hv, he⟩ := O
    cases t' with
    | nil => obtain ⟨a, b, c, e⟩ := put_node (pth k n B) gv l0.er r0.er g0; exact absurd (he.trans e) (by simp [Tre.er])
    | node a' l' r' g' =>
      obtain rfl : a' = a0 := by simpa [Tre.val] using hv
      exact ⟨l', r', g', Ls, rfl, by rw [due_put hB hnk hf], nd', by rw [he]; exact fit_put _ _ _ _ hP hf, by rw [he]; exact tight_put hg ht, by rw [he]; exact rows_put hB hnk hf hg⟩
  | false =>
    refine C_doneD w p loose mean mg mb rest R D eB eR tB tR k tkk c a0 l0 r0 g0 gv B n tb tn rowT cr hR hD hrow hB hnk hk9 hnd dp un gd cn cs a ccd cl outer A₀ base h₀ L m s Q E BB F X N TT hkk hd hu fun r nx h tk F' N' O => hret r nx h tk F' N' ?_
    obtain ⟨t', Ls, rfl, rfl, nd', hv, he⟩ := O
    cases t' with
    | nil => obtain ⟨a, b, c, e⟩ := dropped_node (pth k n B) l0.er r0.er g0; exact absurd (he.trans e) (by simp [Tre.er])
    | node a' l' r' g' =>
      obtain rfl : a' = a0 := by simpa [Tre.val] using hv
      have hdr : (Tre.node a' l0 r0 g0).er.fit k → (Shp.dropped (pth k n B) (Tre.node a' l0 r0 g0).er).fit k := by
        intro h; unfold Shp.dropped; split
        · exact h
        · exact fit_drop _ _ _ h
      have htt : (Tre.node a' l0 r0 g0).er.tight → (Shp.dropped (pth k n B) (Tre.node a' l0 r0 g0).er).tight := by
        intro h; unfold Shp.dropped; split
        · exact h
        · exact tight_drop _ h
      exact ⟨l', r', g', Ls, rfl, by rw [due_drop hB hnk hf], nd', by rw [he]; exact hdr hf, by rw [he]; exact htt ht, by rw [he]; exact rows_drop hB hnk hf⟩
end
/-- the ledger, turned so that the trie stands in front -/
theorem front {α : Type} (p add q o r : List α) : (p ++ (add ++ (q ++ (o ++ r)))).Perm (o ++ (p ++ (add ++ (q ++ r)))) := by
  have h : ∀ (x y z : List α), (x ++ (y ++ z)).Perm (y ++ (x ++ z)) := fun x y z => by
    rw [← List.append_assoc, ← List.append_assoc]; exact (List.perm_append_comm).append_right z
  exact ((((h q o r).append_left add).trans (h add o _)).append_left p).trans (h p o _)
theorem front4 {α : Type} (x i k g c : α) (add o r : List α) : (x :: (add ++ i :: k :: g :: c :: (o ++ r))).Perm (o ++ (x :: (add ++ i :: k :: g :: c :: r))) := front [x] add [i, k, g, c] o r
theorem nd_end {Rn Tt Du Ls rowT I K G C S : Addr} {o1 o1' o2 o3 o4 o5 oI oK oG oC oS : Obj} {add add2 objs dat fx : List (Addr × Obj)}
    (h : Nd ((Rn, o1) :: (Tt, o2) :: (Du, o3) :: (add2 ++ (Ls, o4) :: (objs ++ ((rowT, o5) :: (add ++ (I, oI) :: (K, oK) :: (G, oG) :: (C, oC) :: (S, oS) :: (dat ++ fx))))))) :
    Nd ((I, oI) :: (K, oK) :: (G, oG) :: (C, oC) :: (objs ++ ((Rn, o1') :: (((Tt, o2) :: (Du, o3) :: (add2 ++ (Ls, o4) :: (rowT, o5) :: (add ++ (S, oS) :: dat))) ++ fx)))) := by
  refine nd_of_cn h fun a => ?_
  simp only [cn_cons, cn_append, List.cons_append, List.append_assoc]
  omega
theorem RowsIn.tup {l l' : List (Addr × Obj)} (hs : ∀ a vs n, (a, tupO vs n) ∈ l → (a, tupO vs n) ∈ l') {vs : List Value} {rs : List Rw} (h : RowsIn l vs rs) : RowsIn l' vs rs := by
  induction h with
  | nil => exact .nil
  | cons hm _ ih => exact .cons (hs _ _ _ hm) ih
theorem objs_list : ∀ (t : Tre) (q : Addr × Obj), q ∈ t.objs → q.2.cls = .type "list"
  | .nil, q, h => by simp [Tre.objs] at h
  | .node a l r g, q, h => by
    simp only [Tre.objs, List.mem_cons, List.mem_append] at h
    rcases h with rfl | h | h
    · rfl
    · exact objs_list l q h
    · exact objs_list r q h
theorem rows_end {Tt Du Ls rowT I K G C S : Addr} {o2 o3 oI oK oG oC oS o5 : Obj} {ar : Array Value} {cn : Nat} {vK vG vC : Option Value} {add add2 dat fx : List (Addr × Obj)} {t : Tre} {ws : List Value} {rs : List Rw}
    (h : RowsIn (add2 ++ (Ls, listOf ar cn) :: (t.objs ++ ((rowT, o5) :: (add ++ (I, oI) :: (K, oK) :: (G, oG) :: (C, oC) :: (S, oS) :: (dat ++ fx))))) ws rs)
    (hI : oI.cls ≠ .type "tuple") (hK : oK.data = .cell vK) (hG : oG.data = .cell vG) (hC : oC.data = .cell vC) :
    RowsIn (((Tt, o2) :: (Du, o3) :: (add2 ++ (Ls, listOf ar cn) :: (rowT, o5) :: (add ++ (S, oS) :: dat))) ++ fx) ws rs := by
  refine RowsIn.tup (fun a vs n hm => ?_) h
  simp only [List.mem_append, List.mem_cons, List.cons_append, List.append_assoc] at hm ⊢
  rcases hm with hm | hm | hm | hm | hm | hm | hm | hm | hm | hm | hm | hm
  · exact .inr (.inr (.inl hm))
  · exact .inr (.inr (.inr (.inl hm)))
  · exact absurd (objs_list t _ hm) (by simp [tupO])
  · exact .inr (.inr (.inr (.inr (.inl hm))))
  · exact .inr (.inr (.inr (.inr (.inr (.inl hm)))))
  · have e : tupO vs n = oI := (Prod.mk.inj hm).2
    exact absurd (by rw [← e]) hI
  · have e : tupO vs n = oK := (Prod.mk.inj hm).2
    rw [← e] at hK; cases hK
  · have e : tupO vs n = oG := (Prod.mk.inj hm).2
    rw [← e] at hG; cases hG
  · have e : tupO vs n = oC := (Prod.mk.inj hm).2
    rw [← e] at hC; cases hC
  · exact .inr (.inr (.inr (.inr (.inr (.inr (.inl hm))))))
  · exact .inr (.inr (.inr (.inr (.inr (.inr (.inr (.inl hm)))))))
  · exact .inr (.inr (.inr (.inr (.inr (.inr (.inr (.inr hm)))))))
theorem new_goals {k B n : Nat} {b : Bool} {gv : Value} {rs : List Rw} {l : List (Addr × Obj)} (hg : GoalIn l gv) (h : ∀ q ∈ rs, GoalIn l q.g) : ∀ q ∈ newRows k B n b gv rs, GoalIn l q.g := by
  intro q hq
  unfold newRows at hq
  split at hq
  · rcases ins_mem.mp hq with rfl | hq
    · exact hg
    · exact h q (List.mem_filter.mp hq).1
  · exact h q (List.mem_filter.mp hq).1
section
variable {h₀ h : Heap} {L : Addr} {Rn Tt Du Ls rowT I K G C S : Addr} {o1 o2 o3 o4 o5 oI oK oG oC oS : Obj} {add add2 objs dat fx : List (Addr × Obj)}
theorem news_end
    (N : News h₀ L h ((Rn, o1) :: (Tt, o2) :: (Du, o3) :: (add2 ++ (Ls, o4) :: (objs ++ ((rowT, o5) :: (add ++ (I, oI) :: (K, oK) :: (G, oG) :: (C, oC) :: (S, oS) :: (dat ++ fx))))))) :
    News h₀ L h ((I, oI) :: (K, oK) :: (G, oG) :: (C, oC) :: (objs ++ ((Rn, o1) :: (((Tt, o2) :: (Du, o3) :: (add2 ++ (Ls, o4) :: (rowT, o5) :: (add ++ (S, oS) :: dat))) ++ fx)))) :=
  news_sub N fun q hq => by
    simp only [List.mem_append, List.mem_cons, List.cons_append, List.append_assoc] at hq ⊢
    rcases hq with h | h | h | h | h | h | h | h | h | h | h | h | h | h | h <;> simp [h]
theorem news_endR
    (N : News h₀ L h ((Tt, o2) :: (objs ++ ((rowT, o5) :: (add ++ (I, oI) :: (K, oK) :: (G, oG) :: (C, oC) :: (S, oS) :: (dat ++ fx)))))) :
    News h₀ L h ((I, oI) :: (K, oK) :: (G, oG) :: (C, oC) :: (objs ++ ((S, oS) :: (((Tt, o2) :: (rowT, o5) :: (add ++ dat)) ++ fx)))) :=
  news_sub N fun q hq => by
    simp only [List.mem_append, List.mem_cons, List.cons_append, List.append_assoc] at hq ⊢
    rcases hq with h | h | h | h | h | h | h | h | h | h | h <;> simp [h]
theorem nd_endR
    (N : Nd ((Tt, o2) :: (objs ++ ((rowT, o5) :: (add ++ (I, oI) :: (K, oK) :: (G, oG) :: (C, oC) :: (S, oS) :: (dat ++ fx)))))) :
    Nd ((I, oI) :: (K, oK) :: (G, oG) :: (C, oC) :: (objs ++ ((S, oS) :: (((Tt, o2) :: (rowT, o5) :: (add ++ dat)) ++ fx)))) := by
  refine nd_of_cn N fun a => ?_
  simp only [cn_cons, cn_append, List.cons_append, List.append_assoc]
  omega
end
end
section -- Law2
inductive DrOut (k i : Nat) (rs : List Rw) (a0 : Addr) (rest : List (Addr × Obj)) (rv : Value) (nx : List (Addr × Obj)) : Prop
  | mk (l' r' : Tre) (g' : Value) (f0 : rv = .bool true) (f1 : nx = (Tre.node a0 l' r' g').objs ++ rest) (f2 : Nd nx) (f3 : (Tre.node a0 l' r' g').er.fit k) (f4 : (Tre.node a0 l' r' g').er.tight) (f5 : rowsS (Tre.node a0 l' r' g').er k 0 0 = rs.eraseIdx i) : DrOut k i rs a0 rest rv nx
theorem cut_ix : ∀ (vs : List Value) (k : Nat) (y : Value), vs[k]? = some y → kl_cut vs k = some (vs.take k, y, vs.drop (k + 1))
  | [], k, y, h => by simp at h
  | x :: vs, 0, y, h => by simp at h; subst h; rfl
  | x :: vs, k + 1, y, h => by
    have ih := cut_ix vs k y (by simpa using h)
    show (match kl_cut vs k with | some (p, y, q) => some (x :: p, y, q) | none => none) = _
    rw [ih]; rfl
theorem RowsIn.erase {l : List (Addr × Obj)} {vs : List Value} {rs : List Rw} (h : RowsIn l vs rs) : ∀ i, RowsIn l (vs.eraseIdx i) (rs.eraseIdx i) := by
  induction h with
  | nil => intro i; exact .nil
  | cons hm ht ih =>
    intro i
    cases i with
    | zero => exact ht
    | succ i => exact .cons hm (ih i)
section
variable {prog : Program} {w : World} {A : Around} {E : Value → Shared → Prop} {s : Shared} {h₀ : Heap} {L l : Addr}
theorem pop_ix {vs : List Value} {y : Value} {n k : Nat} {i : Int} {u : Tok} {m : Str → Option Value} {rest : List (Addr × Obj)} {Q : Value → Shared → Prop} (F : Fr h₀ L s.heap m) (N : News h₀ L s.heap ((l, listOf vs.toArray n) :: rest)) (off : ∀ q ∈ rest, q.1 ≠ l)
    (hi : i = (k : Int)) (hk : vs[k]? = some y) (hz : vs.length ≤ 12) (h : ∀ h', Fr h₀ L h' m → News h₀ L h' ((l, listOf (vs.eraseIdx k).toArray (n + 1)) :: rest) → Q y { s with heap := h' }) : wpAny (model prog w) A (call (.builtin "list.pop") [.ref l, .int i u]) Q E s := by
  subst hi
  have hlt : k < vs.length := (List.getElem?_eq_some_iff.mp hk).1
  rw [List.eraseIdx_eq_take_drop_succ] at h
  refine kl_popAt (p := vs.take k) (q := vs.drop (k + 1)) F N ?_ ?_ (by simpa using cut_ix vs k y hk) (.head off) (by rw [sizeLine_eq]; simp; omega) h
  · unfold Builtin.List.listFitsIndex; simp; omega
  · unfold seqIndex?; simp; omega
end
section
variable (w : World) (p : Program) (loose : List Str) (mean : ExcName → Option Value) (mg mb : Str → Option Value) (rest : List (Addr × Obj))
theorem C_drop1 (R D : Addr) (eB eR : Int) (tB tR : Tok) (k : Nat) (tk : Tok) (c : Nat) (a0 : Addr) (l0 r0 : Tre) (g0 : Value) (q : Rw) (tb tn : Tok) (rs : List Rw) (i : Nat)
   (hR : (R, instObj 138 D) ∈ rest) (hD : (D, dictOf [⟨eB, .str (Str.ofString "bits") tB, .int (k : Int) tk⟩, ⟨eR, .str (Str.ofString "root") tR, .ref a0⟩] c) ∈ rest)
   (hk9 : k ≤ 9) (hnd : Nd ((Tre.node a0 l0 r0 g0).objs ++ rest)) (hf : (Tre.node a0 l0 r0 g0).er.fit k) (ht : (Tre.node a0 l0 r0 g0).er.tight) (hrs : rowsS (Tre.node a0 l0 r0 g0).er k 0 0 = rs) (hi : rs[i]? = some q) :
   Con w p loose mean mg mb 121 [.ref R, .int (q.b : Int) tb, .int (q.l : Int) tn] 30 300 ((Tre.node a0 l0 r0 g0).objs ++ rest)
     (DrOut k i rs a0 rest) := by
  subst hrs
  have hsr := rows_srt _ k 0 0 hf
  obtain ⟨hnk, hqb, hqlow, hqg, hqn⟩ := row_room hf (List.mem_of_getElem? hi)
  have hB : q.b < 2 ^ k := by have := pow_pos2 (k - q.l); omega
  have hb : (Shp.get (pth k q.l q.b) (Tre.node a0 l0 r0 g0).er == Value.none) = false := by
    rw [hqg]
    cases hq : (q.g == Value.none) with
    | false => rfl
    | true => exact absurd (none_beq.mp hq) hqn
  intro dp un gd cn cs a ccd cl outer A₀ base h₀ L m s Q E BB F X N TT hkk hd hu hret
  refine C_drop w p loose mean mg mb rest R D eB eR tB tR k tk c a0 l0 r0 g0 q.b q.l tb tn hR hD hB hnk hk9 hnd dp un gd cn cs a ccd cl outer A₀ base h₀ L m s Q E BB F X N TT hkk hd hu fun r nx h tk F' N' O => hret r nx h tk F' N' ?_
  obtain ⟨t', rfl, nd', hv, rfl, he⟩ := O
  have hdr : t'.er = Shp.dropped (pth k q.l q.b) (Tre.node a0 l0 r0 g0).er := by rw [he]; rfl
  rw [hb, if_neg (by simp)] at he
  have hrw : rowsS t'.er k 0 0 = (rowsS (Tre.node a0 l0 r0 g0).er k 0 0).eraseIdx i := by
    rw [hdr, rows_drop (gv := .none) hB hnk hf, newRows, if_neg (by simp)]
    exact filter_erase hsr hi hqlow
  have hff : t'.er.fit k := by rw [he]; exact fit_drop _ _ _ hf
  have htt : t'.er.tight := by rw [he]; exact tight_drop _ ht
  cases t' with
  | nil => obtain ⟨a, b, c, e⟩ := dropped_node (pth k q.l q.b) l0.er r0.er g0; exact absurd (hdr.trans e) (by simp [Tre.er])
  | node a' l' r' g' =>
    obtain rfl : a' = a0 := by simpa [Tre.val] using hv
    exact ⟨l', r', g', by rw [hb]; rfl, rfl, nd', hff, htt, hrw⟩
end
end
section -- L1
local macro_rules | `(tactic| k_qdec) => `(tactic| decide +kernel)
theorem off_L1 : True := by w_top off; exact trivial
local macro_rules | `(tactic| walk_at "call ref") => `(tactic| (k_here; (with_reducible show wpAny _ _ (call (Value.ref 138) _) _ _ _); refine hold_any ?_))
local macro_rules | `(tactic| walk_at "exec If") => `(tactic| refine hold_if ?_)
local macro_rules | `(tactic| walk_at "eval BoolOp") => `(tactic| refine hold_any ?_)
local macro_rules | `(tactic| walk_at "call ref") => `(tactic| (k_here; (first | (with_reducible show wpAny _ _ (call (Value.ref 163) _) _ _ _) | (with_reducible show wpAny _ _ (call (Value.ref 156) _) _ _ _) | (with_reducible show wpAny _ _ (call (Value.ref 175) _) _ _ _) | (with_reducible show wpAny _ _ (call (Value.ref 168) _) _ _ _) | (with_reducible show wpAny _ _ (call (Value.ref 180) _) _ _ _) | (with_reducible show wpAny _ _ (call (Value.ref 135) _) _ _ _) | (with_reducible show wpAny _ _ (call (Value.ref 121) _) _ _ _)); refine hold_any ?_))
local macro_rules | `(tactic| walk_at "ite") => `(tactic| (k_here; k_openite; first
  | (refine ite_pos (by with_reducible assumption) ?_)
  | (refine ite_neg (by with_reducible assumption) ?_)
  | (refine ite_isFalse (by with_reducible assumption) ?_)
  | with_reducible refine ite_tt ?_ | with_reducible refine ite_ff ?_ | (with_reducible refine split_ine ?_ ?_ <;> intro _) | (with_reducible refine split_ieq ?_ ?_ <;> intro _) | with_reducible refine split_not ?_
  | (refine split_dec ?_ ?_ <;> intro _) | (refine split_bool ?_ ?_ <;> intro _)))
local macro_rules | `(tactic| walk_at "compareOp In int ref") => `(tactic| (k_here; k_dflt (refine' in_tuple_ints (News.isTup ?N (.head _)) (.cons _ _ (.cons _ _ .nil)) ?_; (case N => k_asm); k_whole)))
local macro_rules | `(tactic| walk_at "And") => `(tactic| ((with_reducible show Frag.In _ _ ∧ _); refine ⟨Frag.In.keeps (by with_reducible assumption) (Fr.keep (by with_reducible assumption)), ?_⟩; try dsimp only [List.nil_append, List.cons_append]))
local macro_rules | `(tactic| k_in) => `(tactic| exact Frag.In.keeps (by with_reducible assumption) (Fr.keep (by with_reducible assumption)))
local macro_rules | `(tactic| walk_at "call builtin:list.pop") => `(tactic| (k_here; (with_reducible show wpAny _ _ (call (Value.builtin _) [Value.ref _, Value.int _ _]) _ _ _); refine hold_any ?_))
set_option maxRecDepth 100000 in
set_option maxHeartbeats 8000000 in
theorem law_try : PySem.Challenge.rw_pf0330_01.Holds := Mine.hd (by
  k_go0
  rename_i w s0 s1 mg mb G Y fa o pm doc ho hg KX X V GL T B TE TW w12 w11 M w10 w9 hcd ns hs hlay0 hL1 hr1 hl2 w7 w6 aS vsS w3 hL ra w1 r0 hI hr hc1 hc2 K0 hD h₁ tk₁ F0 oC3 oC2 oC1 dC3 dC2 dC1 N0 X0
  all_goals try k_fold
  k_steps
  refine hold_off ?_
  rename Fr _ _ _ _ => F1
  rename News _ _ _ _ => N1
  rename_i D11 h14 l11 D10 h13 l10 D9 h12 l9 D8 h11 l8 D7 h10 l7 D6 h9 l6 La h8 la h7 oF dF D5 h6 l5 D4 h5 l4 D3 h4 l3 D2 h3 l2 D1 h2 l1 D0 h1 l0 Lb hb lb
  refine add_list F1 N1 (.tail _ (.tail _ (.tail _ (.tail _ (.tail _ (.tail _ (.tail _ (.head _)))))))) (.head _) (by simp) fun D h' F2 N2 lD => ?_
  clear F1 N1
  k_lt lD
  k_steps
  rename Fr _ _ _ _ => F3
  rename News _ _ _ _ => N3
  rename_i hq oG dG
  obtain ⟨kb, hkb, ekb⟩ := fmod_pos (cellAt ns 0 0 + 4) 10 (by decide)
  have ekb' : (cellAt ns 0 0 + 4).fmod 10 = (kb : Int) := ekb
  clear ekb
  rw [ekb'] at F3 ⊢
  clear ekb'
  refine Classical.byContradiction fun hno9 => ?_
  obtain ⟨N4, nd4⟩ := news_nd N3 ⟨lD.1, lb.1, l0.1, l1.1, l2.1, l3.1, l4.1, l5.1, la.1, l6.1, l7.1, l8.1, l9.1, l10.1, l11.1, Nat.lt_succ_self _, Nat.lt_succ_self _, trivial⟩
  clear N3 l11 l10 l9 l8 l7 l6 la l5 l4 l3 l2 l1 l0 lb lD dF
  obtain ⟨fx, efx, N5, nd5⟩ := split_cells 15 N4 nd4
  clear N4 nd4
  have hits : ∃ its n, (D, listOf its n) ∈ fx ∧ ∀ kk : Nat, kk < 12 → ∃ a x0 x1 x2 u0 u1 u2 n, its[kk]? = some (.ref a) ∧ (a, tupO #[.int x0 u0, .int x1 u1, .int x2 u2] n) ∈ fx := by
    subst efx
    refine ⟨_, _, .head _, fun kk hkk => ?_⟩
    match kk, hkk with
    | 0, _ => exact ⟨_, _, _, _, _, _, _, _, rfl, by repeat (first | exact List.Mem.head _ | apply List.Mem.tail)⟩
    | 1, _ => exact ⟨_, _, _, _, _, _, _, _, rfl, by repeat (first | exact List.Mem.head _ | apply List.Mem.tail)⟩
    | 2, _ => exact ⟨_, _, _, _, _, _, _, _, rfl, by repeat (first | exact List.Mem.head _ | apply List.Mem.tail)⟩
    | 3, _ => exact ⟨_, _, _, _, _, _, _, _, rfl, by repeat (first | exact List.Mem.head _ | apply List.Mem.tail)⟩
    | 4, _ => exact ⟨_, _, _, _, _, _, _, _, rfl, by repeat (first | exact List.Mem.head _ | apply List.Mem.tail)⟩
    | 5, _ => exact ⟨_, _, _, _, _, _, _, _, rfl, by repeat (first | exact List.Mem.head _ | apply List.Mem.tail)⟩
    | 6, _ => exact ⟨_, _, _, _, _, _, _, _, rfl, by repeat (first | exact List.Mem.head _ | apply List.Mem.tail)⟩
    | 7, _ => exact ⟨_, _, _, _, _, _, _, _, rfl, by repeat (first | exact List.Mem.head _ | apply List.Mem.tail)⟩
    | 8, _ => exact ⟨_, _, _, _, _, _, _, _, rfl, by repeat (first | exact List.Mem.head _ | apply List.Mem.tail)⟩
    | 9, _ => exact ⟨_, _, _, _, _, _, _, _, rfl, by repeat (first | exact List.Mem.head _ | apply List.Mem.tail)⟩
    | 10, _ => exact ⟨_, _, _, _, _, _, _, _, rfl, by repeat (first | exact List.Mem.head _ | apply List.Mem.tail)⟩
    | 11, _ => exact ⟨_, _, _, _, _, _, _, _, rfl, by repeat (first | exact List.Mem.head _ | apply List.Mem.tail)⟩
    | kk + 12, h => omega
  clear efx
  simp only [List.drop, List.cons_append, List.nil_append] at N5 nd5
  obtain ⟨its, nits, hFi, hits⟩ := hits
  refine hno9 ?_
  clear hno9
  refine hold_off ?_
  k_dflt (refine' call_cls ?k1 ?k2 ?k3 ?k4 ?k5 ?k6 ?_; (case k1 => k_asm); (case k2 => k_asm); (case k3 => k_asm); (case k4 => k_is); (case k5 => k_is); (case k6 => k_is); k_whole; intro x' d' h' F' N' l1 l2; (try k_lt l1); (try k_lt2 l2); (try k_sweep); k_enter)
  k_steps
  rename Fr _ _ _ _ => F6
  rename News _ _ _ _ => N6
  rename_i gq Lq hq9 Bq Xq Tq lq1 lq2 lq3 tka hna a0 hnb l1a hnc Fi Ni tkb Gc kX hnd tkc Sr hne l1S hnf hng tkd t1 u1 v1 isR keepR I hI0 l1I
  have nd6 := nd5.lt (p := (d', dictOf [] 0)) (all_cons l1.1 (all_cons l1.2.1 (all_cons l1.2.2.1 (tb_ltOf l1.2.2.2))))
  have nd7 := nd6.lt (p := (x', instObj 138 d')) (all_cons l2 fun q hq => Nat.lt_trans ((all_cons (p := fun q => q.1 < d') l1.1 (all_cons l1.2.1 (all_cons l1.2.2.1 (tb_ltOf l1.2.2.2)))) q hq) l2)
  have nd8 := nd7.lt (p := (a0, listOf #[.none, .none, .none] 0)) (all_cons l1a.1 (all_cons l1a.2.1 (all_cons l1a.2.2.1 (all_cons l1a.2.2.2.1 (all_cons l1a.2.2.2.2.1 (tb_ltOf l1a.2.2.2.2.2))))))
  have nd9 := nd8.lt (p := (Sr, listOf #[] 0)) (all_cons l1S.1 (all_cons l1S.2.1 (all_cons l1S.2.2.1 (all_cons l1S.2.2.2.1 (all_cons l1S.2.2.2.2.1 (all_cons l1S.2.2.2.2.2.1 (tb_ltOf l1S.2.2.2.2.2.2)))))))
  clear nd5 nd6 nd7 nd8 l1 l2 l1a l1S isR keepR Fi Ni
  clear qk ek
  clear lifted Bq Xq Tq lq1 lq2 lq3
  refine Classical.byContradiction fun hno9 => ?_
  have nd10 := news_nd2 (news_tl N6) nd9 rfl
  have nd11 := news_nd2 N6 (Nd.lt (p := (I, itG 0 0 1)) nd10 l1I) rfl
  clear nd9 nd10 l1I
  obtain ⟨fx2, efx2, N7, nd7⟩ := split3 N6 nd11
  clear N6 nd11
  simp only [List.take, List.drop, List.cons_append, List.nil_append] at N7 nd7
  have hRm : (x', instObj 138 d') ∈ fx2 := by rw [efx2]; exact .head _
  have hDm : ∃ eB tB tkB eR tR, (d', dictOf [⟨eB, .str (Str.ofString "bits") tB, .int (kb : Int) tkB⟩, ⟨eR, .str (Str.ofString "root") tR, .ref a0⟩] 2) ∈ fx2 := by rw [efx2]; exact ⟨_, _, _, _, _, .tail _ (.head _)⟩
  have hfx : ∀ q ∈ fx, q ∈ fx2 := fun q hq => by rw [efx2]; exact List.mem_append_right _ hq
  clear efx2
  obtain ⟨eB, tB, tkB, eR, tR, hDm⟩ := hDm
  have hFi2 := hfx _ hFi
  have hits2 : ∀ kk : Nat, kk < 12 → ∃ a x0 x1 x2 u0 u1 u2 n, its[kk]? = some (.ref a) ∧ (a, tupO #[.int x0 u0, .int x1 u1, .int x2 u2] n) ∈ fx2 := fun kk h => by
    obtain ⟨a, x0, x1, x2, u0, u1, u2, n, e1, e2⟩ := hits kk h
    exact ⟨a, x0, x1, x2, u0, u1, u2, n, e1, hfx _ e2⟩
  clear hits hFi hfx fx
  rw [range12] at N7 nd7
  have dS : oC1.data = .cell (some (.ref aS)) := dC1
  obtain ⟨m0, tb, F7, g01, g02, g03⟩ : MapA T.heap s1.heap.objs.size hI0 kb x' Sr := ⟨_, _, F6, rfl, rfl, rfl⟩
  clear F6
  refine hno9 ?_
  clear hno9
  refine for_indN (LawLp s1 T.heap s1.heap.objs.size kb tb x' a0 oG oC1 fx2 I) ?_ ?_ 12 _
    ⟨hI0, _, _, 0, rfl, rfl, .nil, .nil, .none, Sr, [], 0, [], oC3, _, [], F7, N7, nd7, dC3, g01, g02, g03, fit_bare kb _, ⟨trivial, trivial⟩, rfl, ⟨.nil, fun _ h => nomatch h⟩, Nat.le_refl _⟩
  · clear F7 N7 nd7 dC3 g01 g02 g03 m0
    have hNs : ns.length ≤ 2 ^ 20 := len_ints_list (by lay_of)
    clear G Y ho hg X V GL B TE TW M hcd hs hlay0 hL1 hr1 hl2 w1 r0 hr hc1 hc2 F0 dC2 N0
    clear hD X0 dC1 ra Gc KX
    rintro left s₁ ⟨h, tk, m, x, rfl, hx, l, r, g, S, vs, c, dat, oK, vk, rs, F, N, nd, dK, mB, mR, mRows, hfit, htk, hrs, hrows, hlen⟩ IH
    refine for_itemR F N nd.off (by omega) fun t h' tk' F' N' => ?_
    obtain ⟨tl, etl⟩ : ∃ y, y = (Tre.node a0 l r g).objs ++ ((S, listOf vs.toArray c) :: (dat ++ fx2)) := ⟨_, rfl⟩
    rw [← etl] at N' nd
    have hS : (S, listOf vs.toArray c) ∈ tl := by rw [etl]; exact List.mem_append_right _ (.head _)
    have hfx2 : ∀ q ∈ fx2, q ∈ tl := fun q hq => by rw [etl]; exact List.mem_append_right _ (.tail _ (List.mem_append_right _ hq))
    have off3 := nd.tail.off
    have nI3 : I ≠ s1.heap.objs.size + 1 + 1 + 1 := Ne.symm (nd.off _ (.head _))
    have o3 : ∀ q ∈ tl, q.1 ≠ s1.heap.objs.size + 1 + 1 + 1 := fun q hq => off3 q (.tail _ (.tail _ hq))
    clear F N off3
    try simp only [List.cons_append, List.nil_append] at N'
    k_steps
    rename Fr _ _ _ _ => F3
    rename News _ _ _ _ => N3
    rename_i h3 oK3 dK3
    refine Classical.byContradiction fun hno9 => ?_
    obtain ⟨kk, hkk, exk⟩ : ∃ kk : Nat, kk < 12 ∧ x = (kk : Int) := ⟨11 - left, by omega, by omega⟩
    obtain ⟨fa9, x0, x1, x2, u0, u1, u2, nt9, hit9, htm9⟩ := hits2 kk hkk
    have hD9 := hfx2 _ hFi2
    have hT9 := hfx2 _ htm9
    have hx0 : 0 ≤ x := by omega
    have hx12 : x < 12 := by omega
    have hit9' : its[x.toNat]? = some (.ref fa9) := by rw [exk]; exact hit9
    refine hno9 ?_
    clear hno9
    refine hold_off (Assign_Tuple ?_)
    refine ListComp_R F3 (by with_unfolding_all rfl) (by decide) (by rfl) (by decide) (by rfl) ?_
    k_steps
    rename_i h4 tkr tr1 tr2 tr3 isR4 F4 N4 keep4
    refine ⟨_, 3, _, _, _, _, fun i ys add => (∃ cs : List Int, IntsAre ys cs ∧ cs.length = i) ∧ add = [], rfl, rfl, F4, N4, isR4, by decide, by decide +kernel, by rw [sizeLine_eq]; omega, ⟨⟨[], .nil, rfl⟩, rfl⟩, ?_, ?_⟩
    · rintro i ys add ⟨⟨cs, hIs, hcl⟩, rfl⟩ hi3 I9 oI9 C9 oC9 D9 m9 h9 tk9 ti9 E9 hC9 hm9 F9 N9 lt9
      obtain ⟨xi, ui, hxi⟩ : ∃ xi ui, [Value.int x0 u0, Value.int x1 u1, Value.int x2 u2][((i : Nat) : Int).toNat]? = some (.int xi ui) := by
        have : i = 0 ∨ i = 1 ∨ i = 2 := by omega
        rcases this with rfl | rfl | rfl
        · exact ⟨_, _, rfl⟩
        · exact ⟨_, _, rfl⟩
        · exact ⟨_, _, rfl⟩
      k_steps
      refine ⟨_, _, [], rfl, by k_asm, ?_, (fun _ h => nomatch h), ⟨cs ++ [_], hIs.append (.cons _ _ .nil), by simp [hcl]⟩, rfl⟩
      rename News _ _ _ _ => N10
      exact N10
    · rintro Dc h9 tk9 ys add ⟨⟨cs, hIs, hcl⟩, rfl⟩ hyl F9 N9 off9
      refine Classical.byContradiction fun hno9 => ?_
      obtain ⟨a9, b9, c9, ta9, tb9, tc9, rfl⟩ := ints3 hIs hcl
      simp only [List.nil_append] at N9 off9
      clear F4 N4 isR4 keep4 hit9 hit9' htm9 hT9 hD9
      refine hno9 ?_
      clear hno9
      k_steps
      rename Fr _ _ _ _ => F5
      rename News _ _ _ _ => N5
      refine Classical.byContradiction fun hno9 => ?_
      have eP : ((2 : Int) ^ ((kb : Int).toNat)) = ((2 ^ kb : Nat) : Int) := by simp
      obtain ⟨kd, hkd, ekd⟩ := fmod_pos a9 8 (by decide)
      have ekd' : a9.fmod 8 = (kd : Int) := ekd
      obtain ⟨bs, hbs, ebs⟩ := fmod_pos b9 (2 ^ kb) (Nat.pos_of_ne_zero (by simp))
      obtain ⟨ln, hln, eln⟩ := fmod_pos c9 (kb + 1) (Nat.succ_pos _)
      have eln' : c9.fmod ((kb : Int) + 1) = (ln : Int) := eln
      rw [← eP] at ebs
      rw [ekd', ebs, eln'] at F5
      clear ekd ekd' ebs eln eln' off9 hIs hyl hcl cs nI3 o3 dK
      obtain ⟨m1, tkind, tbase, tlen, F6, ga, gb, gc, gkind, gbase, glen, gbits, grows, groutes⟩ : MapB T.heap s1.heap.objs.size _ kb tb x' S a9 b9 c9 ta9 tb9 tc9 kd bs ln := ⟨_, _, _, _, F5, rfl, rfl, rfl, rfl, rfl, rfl, mB, mRows, mR⟩
      clear F5
      have N6 := news_tl N5
      clear N5
      have hroom := fun q hq => row_room (t := (Tre.node a0 l r g).er) hfit (q := q) hq
      rw [hrs] at hroom
      have hrows' : Rows tl vs rs := hrows.mono fun q hq => by rw [etl]; exact List.mem_append_right _ (.tail _ hq)
      have hvl := hrows.1.length
      have hk9 : kb ≤ 9 := by omega
      refine hno9 ?_
      clear hno9
      refine if_join (IfSt s1 T.heap s1.heap.objs.size ((I, itG (x + 1) (((left + 1 : Nat) : Int) - 1) 1) :: (s1.heap.objs.size + 1 + 1 + 1, oK3) :: (s1.heap.objs.size + 1 + 1, oG) :: (s1.heap.objs.size + 1, oC1) :: tl) kb tb x' S a9 c9 ta9 tc9 kd tkind) ?_ ?_
      · refine wpAny_If ?_
        k_steps
        · rename Fr _ _ _ _ => F10
          rename News _ _ _ _ => N10
          refine hold_off (ne_nil_at (n := c) N10 (.tail _ (.tail _ (.tail _ (.tail _ (.tail _ (.tail _ hS)))))) (.head _) hrows' (fun q hq => .tail _ (.tail _ (.tail _ (.tail _ (.tail _ (.tail _ hq)))))) (by ktr_units) ?_)
          cases hre : rs.isEmpty with
          | true =>
            k_steps
            refine hold_off (wpAny_If ?_)
            k_steps
            · rename Fr _ _ _ _ => F11
              rename News _ _ _ _ => N11
              k_dflt (refine hold_off (con_use (C_strangeI w _ _ _ _ _ _ a9 b9 c9 kb ta9 tb9 tc9 tb hk9) K0 F11 kX N11 T rfl (by ktr_room) (by ktr_units) fun r12 nx12 h12 tk12 F12 N12 O12 => ?_))
              obtain ⟨D12, xx, yy, txx, tyy, rfl, rfl, hbad, ltD⟩ := O12
              clear F11 N11
              k_steps
              rename Fr _ _ _ _ => F13
              rename News _ _ _ _ => N13
              exact join_at ⟨xx, yy, txx, tyy, _, _, _, rfl, F13, news_sub N13 fun q hq => .tail _ (.tail _ (.tail _ hq)), ga, gc, gkind, gbits, grows, groutes, rfl, rfl, .inr hbad⟩
            · refine join_at ⟨bs, ln, tbase, tlen, _, _, m1, rfl, by with_reducible assumption, news_sub (by with_reducible assumption) fun q hq => .tail _ (.tail _ hq), ga, gc, gkind, gbits, grows, groutes, gbase, glen, .inl ⟨bs, ln, rfl, rfl, hbs, by omega⟩⟩
          | false =>
            have hpos : 0 < rs.length := by
              cases rs with
              | nil => cases hre
              | cons _ _ => simp
            refine Classical.byContradiction fun hno9 => ?_
            obtain ⟨ii, hii, eii⟩ := fmod_pos c9 rs.length hpos
            have hlenz : (vs.toArray.size : Int) = (rs.length : Int) := by simp [hvl]
            obtain ⟨v, hv⟩ : ∃ v, vs[ii]? = some v := ⟨_, List.getElem?_eq_getElem (by omega)⟩
            obtain ⟨q, qa, tq1, tq2, nq, hq, rfl, hqm⟩ := hrows'.1.get hv
            have hx1 : vs.toArray[(c9.fmod (rs.length : Int)).toNat]? = some (.ref qa) := by rw [eii]; simpa using hv
            have h01 : 0 ≤ c9.fmod (rs.length : Int) := by rw [eii]; omega
            have h02 : c9.fmod (rs.length : Int) < 2 ^ 63 := by rw [eii]; omega
            have hne0 : (rs.length : Int) ≠ 0 := by omega
            have hf63 : (rs.length : Int) < 2 ^ 63 := by omega
            obtain ⟨hql, hqb, hqlow, hqg, hqn⟩ := hroom q (List.mem_of_getElem? hq)
            obtain ⟨zz, hzz, ezz⟩ := fmod_pos b9 (2 ^ (kb - q.l)) (Nat.pos_of_ne_zero (by simp))
            have ezz2 : (q.b : Int) + b9.fmod (2 ^ ((kb : Int) - (q.l : Int)).toNat) = ((q.b + zz : Nat) : Int) := by
              have e1 : ((kb : Int) - (q.l : Int)).toNat = kb - q.l := by omega
              have e2 : ((2 : Int) ^ (kb - q.l)) = ((2 ^ (kb - q.l) : Nat) : Int) := by simp
              rw [e1, e2, ezz, Int.natCast_add]
            refine hno9 ?_
            clear hno9
            k_steps
            rename Fr _ _ _ _ => F14
            rename News _ _ _ _ => N14
            exact join_at ⟨_, _, _, _, _, _, _, rfl, F14, news_sub N14 fun q hq => .tail _ (.tail _ hq), ga, gc, gkind, gbits, grows, groutes, rfl, rfl, .inl ⟨q.b + zz, q.l, ezz2, rfl, by omega, hql⟩⟩
        · refine hold_off (wpAny_If ?_)
          k_steps
          · rename Fr _ _ _ _ => F11
            rename News _ _ _ _ => N11
            k_dflt (refine hold_off (con_use (C_strangeI w _ _ _ _ _ _ a9 b9 c9 kb ta9 tb9 tc9 tb hk9) K0 F11 kX N11 T rfl (by ktr_room) (by ktr_units) fun r12 nx12 h12 tk12 F12 N12 O12 => ?_))
            obtain ⟨D12, xx, yy, txx, tyy, rfl, rfl, hbad, ltD⟩ := O12
            clear F11 N11
            k_steps
            rename Fr _ _ _ _ => F13
            rename News _ _ _ _ => N13
            exact join_at ⟨xx, yy, txx, tyy, _, _, _, rfl, F13, news_sub N13 fun q hq => .tail _ (.tail _ hq), ga, gc, gkind, gbits, grows, groutes, rfl, rfl, .inr hbad⟩
          · refine join_at ⟨bs, ln, tbase, tlen, _, _, m1, rfl, by with_reducible assumption, news_sub (by with_reducible assumption) fun q hq => .tail _ hq, ga, gc, gkind, gbits, grows, groutes, gbase, glen, .inl ⟨bs, ln, rfl, rfl, hbs, by omega⟩⟩
      · rintro s9 ⟨xb, yb, txb, tyb, h9, tk9, m2, rfl, F9, N9, ha2, hc2, hk2, hb2, hr2, hro2, hba2, hle2, hval⟩
        clear F6 N6 ga gb gc gkind gbase glen gbits grows groutes eP hroom hbs hln
        subst exk
        k_steps
        refine hold_off (wpAny_mono (Q := fun v s' => Hold (∃ b tk, v = .bool b ∧ s' = { s1 with heap := h9, toks := tk })) (E := fun _ _ => False) ?_ ?_ fun _ _ h => h.elim)
        · refine BoolOp_or ?_
          k_steps
          all_goals try refine hold_off (BoolOp_and ?_)
          all_goals k_steps
          all_goals try refine hold_off (BoolOp_one ?_)
          all_goals k_steps
          all_goals exact ⟨_, _, rfl, rfl⟩
        · intro v s' hh
          obtain ⟨b, tk, rfl, rfl⟩ : ∃ b tk, v = .bool b ∧ s' = { s1 with heap := h9, toks := tk } := hh
          k_steps
          rename Fr _ _ _ _ => F10
          rename News _ _ _ _ => N10
          k_dflt (refine hold_off (con_use (C_goalI w _ _ _ _ _ _ _ kk _ _) K0 F10 kX N10 T rfl (by ktr_room) (by ktr_units) fun r12 nx12 h12 tk12 F12 N12 O12 => ?_))
          obtain ⟨add, rfl, hndA, gin⟩ := O12
          clear F10 N10
          k_steps
          rename Fr _ _ _ _ => F13
          rename News _ _ _ _ => N13
          rename_i rowT hrA lRow hrB
          have ndF := Nd.lt (p := (rowT, tupO #[.int xb txb, .int yb tyb, r12] 0)) (hndA (nd_same nd rfl)) lRow
          clear lRow hndA nd hx0 hx12 ha2 hc2 hk2 hba2 hle2
          rw [etl] at N13 ndF
          obtain ⟨rest, erest⟩ : ∃ y, y = ((rowT, tupO #[.int xb txb, .int yb tyb, r12] 0) :: (add ++ ((I, itG (kk + 1) (((left + 1 : Nat) : Int) - 1) 1) :: (s1.heap.objs.size + 1 + 1 + 1, oK3) :: (s1.heap.objs.size + 1 + 1, oG) :: (s1.heap.objs.size + 1, oC1) :: (S, listOf vs.toArray c) :: (dat ++ fx2)))) := ⟨_, rfl⟩
          have N14 : News T.heap s1.heap.objs.size hrB ((Tre.node a0 l r g).objs ++ rest) := by
            rw [erest]; exact news_perm N13 (front4 _ _ _ _ _ add _ _)
          have nd14 : Nd ((Tre.node a0 l r g).objs ++ rest) := by
            rw [erest]; exact ndF.perm (front4 _ _ _ _ _ add _ _)
          have mrow : (rowT, tupO #[.int xb txb, .int yb tyb, r12] 0) ∈ rest := by rw [erest]; exact .head _
          have mI : (I, itG (kk + 1) (((left + 1 : Nat) : Int) - 1) 1) ∈ rest := by rw [erest]; exact .tail _ (List.mem_append_right _ (.head _))
          have mK : (s1.heap.objs.size + 1 + 1 + 1, oK3) ∈ rest := by rw [erest]; exact .tail _ (List.mem_append_right _ (.tail _ (.head _)))
          have mG : (s1.heap.objs.size + 1 + 1, oG) ∈ rest := by rw [erest]; exact .tail _ (List.mem_append_right _ (.tail _ (.tail _ (.head _))))
          have mC : (s1.heap.objs.size + 1, oC1) ∈ rest := by rw [erest]; exact .tail _ (List.mem_append_right _ (.tail _ (.tail _ (.tail _ (.head _)))))
          have mS : (S, listOf vs.toArray c) ∈ rest := by rw [erest]; exact .tail _ (List.mem_append_right _ (.tail _ (.tail _ (.tail _ (.tail _ (.head _))))))
          have mDat : ∀ q ∈ dat, q ∈ rest := fun q hq => by rw [erest]; exact .tail _ (List.mem_append_right _ (.tail _ (.tail _ (.tail _ (.tail _ (.tail _ (List.mem_append_left _ hq)))))))
          have mFx : ∀ q ∈ fx2, q ∈ rest := fun q hq => by rw [erest]; exact .tail _ (List.mem_append_right _ (.tail _ (.tail _ (.tail _ (.tail _ (.tail _ (List.mem_append_right _ hq)))))))
          have mDF : ∀ q ∈ dat ++ fx2, q ∈ rest := fun q hq => by rw [erest]; exact .tail _ (List.mem_append_right _ (.tail _ (.tail _ (.tail _ (.tail _ (.tail _ hq))))))
          have mAdd : ∀ q ∈ add, q ∈ rest := fun q hq => by rw [erest]; exact .tail _ (List.mem_append_left _ hq)
          clear N13 ndF hS hfx2 hrows' etl
          have hgn := goal_ne gin
          have hlv : vs.length ≤ 11 := by omega
          have hsr : Srt rs := by rw [← hrs]; exact rows_srt _ _ _ _ hfit
          rcases hval with ⟨B, n, rfl, rfl, hB, hn⟩ | hbad
          · k_dflt (refine hold_off (con_use (C_done w _ _ _ _ _ rest b x' d' _ _ _ _ kb _ _ a0 l r g r12 B n txb tyb rowT 0 (mFx _ hRm) (mFx _ hDm) mrow hB hn hk9 nd14 hfit htk hgn) K0 F13 kX N14 T rfl (by ktr_room) (by ktr_units) fun r15 nx15 h15 tk15 F15 N15 O15 => ?_))
            obtain ⟨l', r', g', Ls, rfl, rfl, nd15, hf15, ht15, hr15⟩ := O15
            rw [hrs] at hr15 N15 nd15
            clear F13 N14 nd14
            k_steps
            rename Fr _ _ _ _ => F16
            rename News _ _ _ _ => N16
            k_dflt (refine hold_off (con_use (C_listed w _ _ _ _ _ _ kb B n b txb tyb _ S rowT vs c 0 rs r12 hk9 hB hn (.tail _ (List.mem_append_right _ mS)) (hrows.mono fun q hq => .tail _ (List.mem_append_right _ (mDF q hq))) hsr hlv (.tail _ (List.mem_append_right _ mrow)) (gin.mono fun q hq => .tail _ (List.mem_append_right _ (mAdd q hq))) nd15) K0 F16 kX N16 T rfl (by ktr_room) (by ktr_units) fun r17 nx17 h17 tk17 F17 N17 O17 => ?_))
            obtain ⟨Tt, Rn, Du, ws, cw, cd, ct, add2, rfl, rfl, nd17, hrw17⟩ := O17
            clear F16 N16
            have hdd := due_dat (k := kb) (B := B) (n := n) (b := b) (rs := rs) (l := dat ++ fx2) hrows.2
            have mR17 := mFx _ hRm
            have mD17 := mFx _ hDm
            clear hfit htk hrs hdd
            obtain ⟨nx, enx⟩ : ∃ y, y = ((Rn, listOf ws.toArray cw) :: (Tt, tupO #[.ref Rn, .ref Du] ct) :: (Du, listOf #[dueOf kb B n b rs] cd) :: (add2 ++ (Ls, listOf #[dueOf kb B n b rs] 0) :: ((Tre.node a0 l' r' g').objs ++ rest))) := ⟨_, rfl⟩
            have sub : ∀ q ∈ rest, q ∈ nx := fun q hq => by rw [enx]; exact .tail _ (.tail _ (.tail _ (List.mem_append_right _ (.tail _ (List.mem_append_right _ hq)))))
            have sob : ∀ q ∈ (Tre.node a0 l' r' g').objs, q ∈ nx := fun q hq => by rw [enx]; exact .tail _ (.tail _ (.tail _ (List.mem_append_right _ (.tail _ (List.mem_append_left _ hq)))))
            have sRn : (Rn, listOf ws.toArray cw) ∈ nx := by rw [enx]; exact .head _
            have sLs : (Ls, listOf #[dueOf kb B n b rs] 0) ∈ nx := by rw [enx]; exact .tail _ (.tail _ (.tail _ (List.mem_append_right _ (.head _))))
            have sDu : (Du, listOf #[dueOf kb B n b rs] cd) ∈ nx := by rw [enx]; exact .tail _ (.tail _ (.head _))
            have hdd : (∃ b', dueOf kb B n b rs = .bool b') ∨ ∃ d, DatIn nx (dueOf kb B n b rs) d ∧ kqdOk 8 d = true := due_dat fun q hq => (hrows.2 q hq).mono fun p hp => sub _ (mDF p hp)
            have hrN : Rows nx ws (newRows kb B n b r12 rs) := hrw17.mono fun q hq => by rw [enx]; exact .tail _ (.tail _ (.tail _ hq))
            have hrT : Rows nx ws (rowsS (Tre.node a0 l' r' g').er kb 0 0) := by rw [hr15]; exact hrN
            have sR := sub _ mR17
            have sD := sub _ mD17
            have nd18 := nd17
            rw [← enx] at nd18
            have bx := Box.mk (And.intro sub (And.intro sob (And.intro sRn (And.intro sLs (And.intro sDu (And.intro hdd (And.intro hrT (And.intro nd18 (And.intro nd17 (And.intro hrw17 (And.intro hr15 (And.intro sR (And.intro sD enx)))))))))))))
            have bh := Box.mk hrows
            clear sub sob sRn sLs sDu hdd hrN hrT nd18 nd17 hrw17 hr15 nd15 hrows mR17 mD17 hRm hDm sR sD enx
            k_steps
            rename Fr _ _ _ _ => F18
            rename News _ _ _ _ => N18
            have enx := bx.out.2.2.2.2.2.2.2.2.2.2.2.2.2
            rw [← enx] at N18
            clear enx
            have sR := bx.out.2.2.2.2.2.2.2.2.2.2.2.1
            have sD := bx.out.2.2.2.2.2.2.2.2.2.2.2.2.1
            refine hold_off (wpAny_If ?_)
            k_steps
            refine hold_off (ne_one N18 bx.out.2.2.2.1 bx.out.2.2.2.2.1 bx.out.2.2.2.2.2.1 (by ktr_units) ?_)
            k_steps
            rename Fr _ _ _ _ => F19
            k_dflt (refine hold_off (con_use (C_rowsM w _ _ _ _ _ _ x' d' _ _ _ _ kb _ _ a0 l' r' g' hk9 sR sD bx.out.2.1 hf15 (fit_sz9 hf15 hk9)) K0 F19 kX N18 T rfl (by ktr_room) (by ktr_units) fun r20 nx20 h20 tk20 F20 N20 O20 => ?_))
            obtain ⟨O9, vs20, c20, add20, rfl, rfl, hro20⟩ := O20
            clear F19 N18
            k_steps
            refine Classical.byContradiction fun hno9 => ?_
            obtain ⟨⟨sub, sob, sRn, sLs, sDu, hdd, hrT, nd18, hrest⟩⟩ := bx
            refine hno9 ?_
            clear hno9
            refine hold_off (ne_rows N20 (.head _) (.tail _ (List.mem_append_right _ sRn)) (rs := rowsS (Tre.node a0 l' r' g').er kb 0 0) ⟨hro20.mono fun q hq => .tail _ (List.mem_append_left _ hq), fun q hq => (hrT.2 q hq).mono fun p hp => .tail _ (List.mem_append_right _ hp)⟩ (hrT.1.mono fun p hp => .tail _ (List.mem_append_right _ hp)) (by ktr_units) ?_)
            have N21 : News T.heap s1.heap.objs.size h20 nx := news_sub N20 fun q hq => .tail _ (List.mem_append_right _ hq)
            clear N20
            have bx := Box.mk (And.intro sub (And.intro sob (And.intro sRn (And.intro sLs (And.intro sDu (And.intro hdd (And.intro hrT (And.intro nd18 hrest))))))))
            clear sub sob sRn sLs sDu hdd hrT nd18 hrest hro20
            k_steps
            rename Fr _ _ _ _ => F22
            rename News _ _ _ _ => N22
            k_dflt (refine hold_off (con_use (C_trie w _ _ _ _ _ kb nx l'.er r'.er g' _ Rn ws cw hk9 hf15 ht15 bx.out.2.2.1 bx.out.2.2.2.2.2.2.1 bx.out.2.2.2.2.2.2.2.1) K0 F22 kX N22 T rfl (by first | ktr_room | (simp only [recursionLimit]; omega)) (by first | ktr_units | (have := hk9; omega)) fun r23 nx23 h23 tk23 F23 N23 O23 => ?_))
            obtain ⟨ra9, tl9, tr9, rfl, rfl, nd23, el9, er9⟩ := O23
            clear F22 N22 nd23
            k_steps
            refine hold_off (ne_trie (t := Tre.node a0 l' r' g') (u := Tre.node ra9 tl9 tr9 g') N23 (by simp [Tre.er, el9, er9]) hf15 hk9 (fun q hq => List.mem_append_right _ (bx.out.2.1 q hq)) (fun q hq => List.mem_append_left _ hq) (Shp.gs_rows _ kb 0 0 fun r9 hr9 => (bx.out.2.2.2.2.2.2.1.2 r9 hr9).mono fun p hp => List.mem_append_right _ hp) (by ktr_units) ?_)
            have N24 : News T.heap s1.heap.objs.size h23 nx := news_sub N23 fun q hq => List.mem_append_right _ hq
            clear N23
            k_steps
            rename Fr _ _ _ _ => F25
            refine Classical.byContradiction fun hno9 => ?_
            obtain ⟨sub, sob, sRn, sLs, sDu, hdd, hrT, nd18, nd17, hrw17, hr15, sR, sD, enx⟩ := bx.out
            refine hno9 ?_
            clear hno9
            have hrows := bh.out
            have eI : ((left + 1 : Nat) : Int) - 1 = (left : Int) := by omega
            rw [enx, erest, eI] at N24
            rw [erest, eI] at nd17 hrw17
            have hlen2 := newRows_length kb B n b r12 rs
            refine for_post_next (IH _ ⟨_, _, _, (kk : Int) + 1, rfl, by omega, l', r', g', Rn, ws, cw, ((Tt, tupO #[.ref Rn, .ref Du] ct) :: (Du, listOf #[dueOf kb B n b rs] cd) :: (add2 ++ (Ls, listOf #[dueOf kb B n b rs] 0) :: (rowT, tupO #[.int (B : Int) txb, .int (n : Int) tyb, r12] 0) :: (add ++ (S, listOf vs.toArray c) :: dat))), oK3, _, newRows kb B n b r12 rs, F25, news_end N24, nd_end nd17, dK3, hb2, hro2, rfl, hf15, ht15, hr15, ⟨rows_end hrw17.1 (by simp) dK3 dG dS, new_goals (gin.mono fun q hq => ?_) fun q hq => (hrows.2 q hq).mono fun p hp => ?_⟩, by omega⟩)
            · simp [hq]
            · rcases List.mem_append.mp hp with hp | hp <;> simp [hp]
          · have bx := Box.mk (And.intro hfit (And.intro htk (And.intro hrows hrs)))
            have bs := Box.mk (And.intro hsr (And.intro hlen hx))
            have mR1 := List.mem_append_right (Tre.node a0 l r g).objs (mFx _ hRm)
            have mD1 := List.mem_append_right (Tre.node a0 l r g).objs (mFx _ hDm)
            have mS1 := List.mem_append_right (Tre.node a0 l r g).objs mS
            have mr1 := List.mem_append_right (Tre.node a0 l r g).objs mrow
            have mDF1 : ∀ q ∈ dat ++ fx2, q ∈ (Tre.node a0 l r g).objs ++ rest := fun q hq => List.mem_append_right _ (mDF q hq)
            have mo1 : ∀ q ∈ (Tre.node a0 l r g).objs, q ∈ (Tre.node a0 l r g).objs ++ rest := fun q hq => List.mem_append_left _ hq
            obtain ⟨nx, enx⟩ : ∃ y, y = (Tre.node a0 l r g).objs ++ rest := ⟨_, rfl⟩
            rw [← enx] at mR1 mD1 mS1 mr1 mDF1 mo1 N14 nd14
            have hrT0 : Rows nx vs (rowsS (Tre.node a0 l r g).er kb 0 0) := by rw [hrs]; exact hrows.mono mDF1
            have bm := Box.mk (And.intro hrT0 (And.intro mo1 (And.intro nd14 (And.intro enx erest))))
            clear hfit htk hrows hrs hRm hDm mDF1 mo1 nd14 enx erest mrow mI mK mG mC mS mDat mFx mDF mAdd hsr hlen hrT0
            k_dflt (refine hold_off (conT_use (C_doneR w _ _ _ _ _ nx b x' d' _ _ _ _ kb _ _ (.ref a0) r12 xb yb txb tyb rowT 0 hbad hk9 mR1 mD1 mr1) K0 F13 kX N14 T rfl (by ktr_room) (by ktr_units) fun r15 nx15 h15 tk15 F15 N15 O15 => ?_))
            obtain ⟨⟨tw15, rfl⟩, rfl⟩ := O15
            clear F13 N14
            k_steps
            rename Fr _ _ _ _ => F16
            rename News _ _ _ _ => N16
            k_dflt (refine hold_off (con_use (C_listedR w _ _ _ _ _ nx15 xb yb kb b txb tyb _ S rowT vs c 0 r12 hk9 hbad mS1 mr1) K0 F16 kX N16 T rfl (by ktr_room) (by ktr_units) fun r17 nx17 h17 tk17 F17 N17 O17 => ?_))
            obtain ⟨Tt, tw17, rfl, rfl, lt17⟩ := O17
            have b17 := Box.mk lt17
            clear F16 N16 lt17
            k_steps
            refine hold_off (wpAny_If ?_)
            k_steps
            rename Fr _ _ _ _ => F19
            rename News _ _ _ _ => N19
            k_dflt (refine hold_off (con_use (C_rowsM w _ _ _ _ _ _ x' d' _ _ _ _ kb _ _ a0 l r g hk9 (.tail _ mR1) (.tail _ mD1) (fun q hq => .tail _ (bm.out.2.1 q hq)) bx.out.1 (fit_sz9 bx.out.1 hk9)) K0 F19 kX N19 T rfl (by ktr_room) (by ktr_units) fun r20 nx20 h20 tk20 F20 N20 O20 => ?_))
            obtain ⟨O9, vs20, c20, add20, rfl, rfl, hro20⟩ := O20
            have b20 := Box.mk hro20
            clear F19 N19 hro20
            k_steps
            refine hold_off (ne_rows N20 (.head _) (.tail _ (List.mem_append_right _ (.tail _ mS1))) (rs := rowsS (Tre.node a0 l r g).er kb 0 0) ⟨b20.out.mono fun q hq => .tail _ (List.mem_append_left _ hq), fun q hq => (bm.out.1.2 q hq).mono fun p hp => .tail _ (List.mem_append_right _ (.tail _ hp))⟩ (bm.out.1.1.mono fun p hp => .tail _ (List.mem_append_right _ (.tail _ hp))) (by ktr_units) ?_)
            have N21 : News T.heap s1.heap.objs.size h20 ((Tt, tupO #[.ref S, .str (Str.ofString "no such prefix") tw17] 0) :: nx15) := news_sub N20 fun q hq => .tail _ (List.mem_append_right _ hq)
            clear N20
            k_steps
            rename Fr _ _ _ _ => F22
            rename News _ _ _ _ => N22
            k_dflt (refine hold_off (con_use (C_trie w _ _ _ _ _ kb ((Tt, tupO #[.ref S, .str (Str.ofString "no such prefix") tw17] 0) :: nx15) l.er r.er g _ S vs c hk9 bx.out.1 bx.out.2.1 (.tail _ mS1) (bm.out.1.mono fun p hp => .tail _ hp) (bm.out.2.2.1.lt b17.out)) K0 F22 kX N22 T rfl (by first | ktr_room | (simp only [recursionLimit]; omega)) (by first | ktr_units | (have := hk9; omega)) fun r23 nx23 h23 tk23 F23 N23 O23 => ?_))
            obtain ⟨ra9, tl9, tr9, rfl, rfl, nd23, el9, er9⟩ := O23
            clear F22 N22 nd23
            k_steps
            refine hold_off (ne_trie (t := Tre.node a0 l r g) (u := Tre.node ra9 tl9 tr9 g) N23 (by simp [Tre.er, el9, er9]) bx.out.1 hk9 (fun q hq => List.mem_append_right _ (.tail _ (bm.out.2.1 q hq))) (fun q hq => List.mem_append_left _ hq) (Shp.gs_rows _ kb 0 0 fun r9 hr9 => (bm.out.1.2 r9 hr9).mono fun p hp => List.mem_append_right _ (.tail _ hp)) (by ktr_units) ?_)
            have N24 : News T.heap s1.heap.objs.size h23 ((Tt, tupO #[.ref S, .str (Str.ofString "no such prefix") tw17] 0) :: nx15) := news_sub N23 fun q hq => List.mem_append_right _ hq
            clear N23
            k_steps
            rename Fr _ _ _ _ => F25
            refine Classical.byContradiction fun hno9 => ?_
            obtain ⟨hrT0, mo1, nd14, enx, erest⟩ := bm.out
            obtain ⟨hfit, htk, hrows, hrs⟩ := bx.out
            obtain ⟨hsr, hlen, hx⟩ := bs.out
            refine hno9 ?_
            clear hno9
            have nd17 := Nd.lt (p := (Tt, tupO #[.ref S, .str (Str.ofString "no such prefix") tw17] 0)) nd14 b17.out
            have eI : ((left + 1 : Nat) : Int) - 1 = (left : Int) := by omega
            rw [enx, erest, eI] at N24 nd17
            refine for_post_next (IH _ ⟨_, _, _, (kk : Int) + 1, rfl, by omega, l, r, g, S, vs, c, ((Tt, tupO #[.ref S, .str (Str.ofString "no such prefix") tw17] 0) :: (rowT, tupO #[.int xb txb, .int yb tyb, r12] 0) :: (add ++ dat)), oK3, _, rs, F25, news_endR N24, nd_endR nd17, dK3, hb2, hro2, rfl, hfit, htk, hrs, hrows.mono fun p hp => ?_, by omega⟩)
            rcases List.mem_append.mp hp with hp | hp <;> simp [hp]
  · rintro s' ⟨h, tk, m, x, rfl, hx, l, r, g, S, vs, c, dat, oK, vk, rs, F, N, nd, dK, mB, mR, mRows, hfit, htk, hrs, hrows, hlen⟩
    clear F7 N7 nd7 dC3 g01 g02 g03 m0
    clear hits2 hFi2 hD X0 dC1 ra Gc KX
    refine for_endR rfl F N nd.off (by simp) fun h' F' N' => ?_
    clear F N
    k_steps
    rename Fr _ _ _ _ => F1
    rename News _ _ _ _ => N1
    have N2 : News T.heap s1.heap.objs.size _ ((s1.heap.objs.size + 1 + 1 + 1, oK) :: (s1.heap.objs.size + 1 + 1, oG) :: (s1.heap.objs.size + 1, oC1) :: ((Tre.node a0 l r g).objs ++ (S, listOf vs.toArray c) :: (dat ++ fx2))) := N1
    obtain ⟨rr, err⟩ : ∃ y, y = (s1.heap.objs.size + 1 + 1 + 1, oK) :: (s1.heap.objs.size + 1 + 1, oG) :: (s1.heap.objs.size + 1, oC1) :: (dat ++ fx2) := ⟨_, rfl⟩
    have N3 : News T.heap s1.heap.objs.size _ ((S, listOf vs.toArray c) :: ((Tre.node a0 l r g).objs ++ rr)) := news_sub N2 fun q hq => by
      rw [err] at hq
      simp only [List.mem_append, List.mem_cons] at hq ⊢
      rcases hq with h | h | h | h | h | h | h <;> simp [h]
    have nd2 : Nd ((s1.heap.objs.size + 1 + 1 + 1, oK) :: (s1.heap.objs.size + 1 + 1, oG) :: (s1.heap.objs.size + 1, oC1) :: ((Tre.node a0 l r g).objs ++ (S, listOf vs.toArray c) :: (dat ++ fx2))) := nd.tail
    have nd3 : Nd ((S, listOf vs.toArray c) :: ((Tre.node a0 l r g).objs ++ rr)) := nd_of_cn nd2 fun a => by
      rw [err]
      simp only [cn_cons, cn_append]
      omega
    have hRr : (x', instObj 138 d') ∈ rr := by rw [err]; exact .tail _ (.tail _ (.tail _ (List.mem_append_right _ hRm)))
    have hDr : (d', dictOf [⟨eB, .str (Str.ofString "bits") tB, .int (kb : Int) tkB⟩, ⟨eR, .str (Str.ofString "root") tR, .ref a0⟩] 2) ∈ rr := by rw [err]; exact .tail _ (.tail _ (.tail _ (List.mem_append_right _ hDm)))
    have hrr : Rows rr vs rs := hrows.mono fun q hq => by rw [err]; exact .tail _ (.tail _ (.tail _ hq))
    clear N1 N2 nd nd2 hRm hDm hrows err
    refine while_ind (WhSt s1 T.heap s1.heap.objs.size kb tb x' S a0 rr (cellAt ns 37 0)) ?_ rs.length _ ⟨_, _, _, l, r, g, vs, c, rs, _, rfl, F1, N3, nd3, mB, mR, mRows, rfl, hfit, htk, hrs, hrr, rfl, by omega⟩
    clear F1 N3 nd3 mB mR mRows hfit htk hrs hrr hlen dK
    rintro mm s9 ⟨h, tk, m, l, r, g, vs, c, rs, tt, rfl, F, N, nd, mB, mR, mRows, mT, hfit, htk, hrs, hrows, hmm, hm12⟩ IH
    have hk9 : kb ≤ 9 := by omega
    have bx := Box.mk (And.intro nd (And.intro hfit (And.intro htk (And.intro hrs hrows))))
    have hvl := hrows.1.length
    clear nd hfit htk hrows
    refine while_turn ?_
    k_steps
    rename News _ _ _ _ => N4
    refine hold_off (ne_nil_at N4 (.tail _ (.head _)) (.head _) bx.out.2.2.2.2 (fun q hq => .tail _ (.tail _ (List.mem_append_right _ hq))) (by ktr_units) ?_)
    have N5 := news_tl N4
    clear N4
    cases hre : rs.isEmpty with
    | true =>
      have hnil : rs = [] := by simpa using hre
      obtain ⟨e1, e2, e3⟩ := rows_nil (n := kb) bx.out.2.2.1 (bx.out.2.2.2.1.trans hnil)
      obtain rfl : l = .nil := by
        cases l with
        | nil => rfl
        | node _ _ _ _ => simp [Tre.er] at e1
      obtain rfl : r = .nil := by
        cases r with
        | nil => rfl
        | node _ _ _ _ => simp [Tre.er] at e2
      subst e3
      clear e1 e2
      k_steps
      refine hold_off (BoolOp_and ?_)
      k_steps
      rename News _ _ _ _ => N6
      refine hold_off (eq_trie (t := Tre.node a0 .nil .nil .none) (u := Tre.node _ .nil .nil .none) (k := kb) N6 rfl bx.out.2.1 hk9 (fun q hq => .tail _ (.tail _ (List.mem_append_left _ hq))) (fun q hq => by rcases List.mem_singleton.mp hq with rfl; exact .head _) ⟨.inl rfl, trivial, trivial⟩ (by ktr_units) ?_)
      k_steps
      refine hold_off (BoolOp_one ?_)
      k_steps
      rename Fr _ _ _ _ => F8
      rename News _ _ _ _ => N8
      k_dflt (refine hold_off (con_use (C_rowsM w _ _ _ _ _ _ x' d' _ _ _ _ kb _ _ a0 .nil .nil .none hk9 (.tail _ (.tail _ (List.mem_append_right _ hRr))) (.tail _ (.tail _ (List.mem_append_right _ hDr))) (fun q hq => .tail _ (.tail _ (List.mem_append_left _ hq))) bx.out.2.1 (fit_sz9 bx.out.2.1 hk9)) K0 F8 kX N8 T rfl (by ktr_room) (by ktr_units) fun r20 nx20 h20 tk20 F20 N20 O20 => ?_))
      obtain ⟨O9, vs20, c20, add20, rfl, rfl, hro20⟩ := O20
      rw [bx.out.2.2.2.1, hnil] at hro20
      have b20 := Box.mk hro20
      clear F8 N8 hro20
      k_steps
      rename News _ _ _ _ => N21
      refine hold_off (eq_nil_at N21 (.tail _ (.head _)) (.head _) ⟨b20.out, fun _ h => nomatch h⟩ (fun q hq => .tail _ (.tail _ (List.mem_append_left _ hq))) (by ktr_units) ?_)
      k_steps
    | false =>
      have hpos : 0 < rs.length := by
        cases rs with
        | nil => cases hre
        | cons _ _ => simp
      refine Classical.byContradiction fun hno9 => ?_
      obtain ⟨ii, hii, eii⟩ := fmod_pos (cellAt ns 37 0) rs.length hpos
      have hlenz : (vs.toArray.size : Int) = (rs.length : Int) := by simp [hvl]
      obtain ⟨v, hv⟩ : ∃ v, vs[ii]? = some v := ⟨_, List.getElem?_eq_getElem (by omega)⟩
      obtain ⟨q, qa, tq1, tq2, nq, hq, rfl, hqm⟩ := bx.out.2.2.2.2.1.get hv
      have hne0 : (rs.length : Int) ≠ 0 := by omega
      have hf63 : (rs.length : Int) < 2 ^ 63 := by omega
      refine hno9 ?_
      clear hno9
      k_steps
      rename Fr _ _ _ _ => F6
      rename News _ _ _ _ => N6
      refine hold_off (pop_ix F6 N6 bx.out.1.off eii hv (by omega) fun h7 F7 N7 => ?_)
      clear F6 N6
      k_steps
      rename Fr _ _ _ _ => F8
      rename News _ _ _ _ => N8
      refine hold_off (wpAny_If ?_)
      k_steps
      have N9 : News T.heap s1.heap.objs.size _ ((Tre.node a0 l r g).objs ++ ((S, listOf (vs.eraseIdx ii).toArray (c + 1)) :: rr)) := news_sub N8 fun q hq => by
        simp only [List.mem_append, List.mem_cons] at hq ⊢
        rcases hq with h | h | h <;> simp [h]
      have nd9 : Nd ((Tre.node a0 l r g).objs ++ ((S, listOf (vs.eraseIdx ii).toArray (c + 1)) :: rr)) := nd_of_cn bx.out.1 fun a => by
        simp only [cn_cons, cn_append]
        omega
      k_dflt (refine hold_off (con_use (C_drop1 w _ _ _ _ _ ((S, listOf (vs.eraseIdx ii).toArray (c + 1)) :: rr) x' d' _ _ _ _ kb _ _ a0 l r g q _ _ rs ii (.tail _ hRr) (.tail _ hDr) hk9 nd9 bx.out.2.1 bx.out.2.2.1 bx.out.2.2.2.1 hq) K0 F8 kX N9 T rfl (by ktr_room) (by ktr_units) fun r9 nx9 h9 tk9 F9 N10 O9 => ?_))
      obtain ⟨l', r', g', rfl, rfl, nd10, hf10, ht10, hr10⟩ := O9
      have b10 := Box.mk (And.intro nd10 (And.intro hf10 (And.intro ht10 hr10)))
      clear F8 N8 N9 nd9 nd10 hf10 ht10 hr10
      k_steps
      rename Fr _ _ _ _ => F11
      rename News _ _ _ _ => N11
      have N12 : News T.heap s1.heap.objs.size _ ((S, listOf (vs.eraseIdx ii).toArray (c + 1)) :: ((Tre.node a0 l' r' g').objs ++ rr)) := news_sub N11 fun q hq => by
        simp only [List.mem_append, List.mem_cons] at hq ⊢
        rcases hq with h | h | h <;> simp [h]
      have nd12 : Nd ((S, listOf (vs.eraseIdx ii).toArray (c + 1)) :: ((Tre.node a0 l' r' g').objs ++ rr)) := nd_of_cn b10.out.1 fun a => by
        simp only [cn_cons, cn_append]
        omega
      have hle : (rs.eraseIdx ii).length = rs.length - 1 := List.length_eraseIdx_of_lt hii
      refine IH (rs.length - 1) _ (by omega) ⟨_, _, _, l', r', g', vs.eraseIdx ii, c + 1, rs.eraseIdx ii, _, rfl, F11, N12, nd12, mB, mR, mRows, mT, b10.out.2.1, b10.out.2.2.1, b10.out.2.2.2, ⟨bx.out.2.2.2.2.1.erase ii, fun q hq => bx.out.2.2.2.2.2 q (List.mem_of_mem_eraseIdx hq)⟩, hle, by omega⟩)
end
end -- pre3
end -- pre2
end -- pre1
end -- pre0
end Mine
theorem PySem.Challenge.cw_pf0330_01_holds : PySem.Challenge.rw_pf0330_01.Holds := by
  exact Mine.law_try
