import PyProof.Rows.All
import Wide.All
import OpenK.AllK
import Wide.FinOn
import Lean
import PySem.Challenge.RW_on0100_01
open PySem PySem.W PyProof.Rows PySem.Spec PySem.Calls
set_option Elab.async false
set_option maxRecDepth 100000
set_option compiler.extract_closed false

namespace Mine
set_option maxHeartbeats 0 in
open_top hd for PySem.Challenge.rw_on0100_01

local macro_rules | `(tactic| walk_at $s:str) => `(tactic| k_extra $s)
/-- what a call of the def at f does, from any caller's frame, over the ledger news -/
noncomputable def Does (w : World) (mean : ExcName → Option Value) (mg mb : Str → Option Value) (f : Addr) (dd du : Nat) (news : List (Addr × Obj)) (vs : List Value) (Post : Value → List (Addr × Obj) → Prop) : Prop :=
  ∀ (dp un : Nat) (gd : Option (List Code)) (cn : Str) (cs : Scope) (a : Addr) (ccd : Value) (cl : List (Str × Addr)) (outer : List Env) (A₀ : Around) (base h₀ : Heap) (L : Addr) (m : Str → Option Value) (s : Shared)
    (Q E : Value → Shared → Prop),
    Below A₀ base outer h₀ → Fr h₀ L s.heap m → (hd.heap_39 w.params).In h₀ → News h₀ L s.heap news → Top hd.view_39 (looseW hd.view_39 []) mean mg mb h₀ → cs.kind = .function → dp + dd < recursionLimit → un + du < cLine →
    (∀ r h' tk' news', Fr h₀ L h' m → News h₀ L h' news' → Post r news' → Q r { s with heap := h', toks := tk' }) →
    wpAny (model PySem.Challenge.rw_on0100_01.row.prog w) (ktrTop dp un gd cn cs L a ccd cl outer) (call (.ref f) vs) Q E s

/-- the ledger stays, the value is told -/
noncomputable abbrev Gives (news : List (Addr × Obj)) (P : Value → Prop) : Value → List (Addr × Obj) → Prop := fun v news' => news = news' ∧ P v

theorem does_ret {Q : Value → Shared → Prop} {s : Shared} {h₀ : Heap} {L : Addr} {m : Str → Option Value} {news : List (Addr × Obj)} {P : Value → Prop}
    (hret : ∀ r h' tk' news', Fr h₀ L h' m → News h₀ L h' news' → Gives news P r news' → Q r { s with heap := h', toks := tk' })
    {r : Value} {h' : Heap} {tk' : Nat} {news' : List (Addr × Obj)} (F : Fr h₀ L h' m) (N : News h₀ L h' news') (hs : ∀ p ∈ news, p ∈ news') (hp : P r) : Q r { s with heap := h', toks := tk' } :=
  hret r h' tk' news F (fun p hp => N p (hs p hp)) ⟨rfl, hp⟩

theorem Does.weak {w : World} {mean : ExcName → Option Value} {mg mb : Str → Option Value} {f : Addr} {dd du dd' du' : Nat} {news : List (Addr × Obj)} {vs : List Value} {P P' : Value → List (Addr × Obj) → Prop}
    (h : Does w mean mg mb f dd du news vs P) (hd : dd ≤ dd') (hu : du ≤ du') (hP : ∀ v n, P v n → P' v n) : Does w mean mg mb f dd' du' news vs P' :=
  fun _ _ _ _ _ _ _ _ _ _ _ _ _ _ _ _ _ B F X N T hk hd' hu' ret => h _ _ _ _ _ _ _ _ _ _ _ _ _ _ _ _ _ B F X N T hk (Nat.lt_of_le_of_lt (Nat.add_le_add_left hd _) hd') (Nat.lt_of_le_of_lt (Nat.add_le_add_left hu _) hu') fun r h' tk' n F' N' hp => ret r h' tk' n F' N' (hP _ _ hp)

/-- texts, written one by one -/
inductive StrLits : List PySem.Expr → List Str → Prop where
  | nil : StrLits [] []
  | cons {es : List PySem.Expr} {ss : List Str} (x : Str) (k : Nat) (pos : Pos) : StrLits es ss → StrLits (.Constant (.str x) k pos :: es) (x :: ss)
theorem spliced_strs {prog : Program} {w : World} {A : Around} {E : Value → Shared → Prop} {env : Env} {pos : Pos} {es : List PySem.Expr} {ss : List Str} {s : Shared} {Q : List Value → Shared → Prop} (hs : StrLits es ss)
    (h : ∀ vs tk', StrsAre vs ss → Q vs { s with toks := tk' }) : wpAny (model prog w) A (spliced (backTo pos (starEach es env))) Q E s := by
  induction hs generalizing Q s with
  | nil => exact spliced_none (h [] s.toks .nil)
  | cons x k p _ ih => exact args_cons (Constant_str (ih fun vs tk' hv => h (.str x s.toks :: vs) tk' (.cons _ _ hv)))
inductive IntLits : List PySem.Expr → List Int → Prop where
  | nil : IntLits [] []
  | cons {es : List PySem.Expr} {ns : List Int} (x : Int) (k : Nat) (pos : Pos) : IntLits es ns → IntLits (.Constant (.int x) k pos :: es) (x :: ns)
theorem spliced_ints {prog : Program} {w : World} {A : Around} {E : Value → Shared → Prop} {env : Env} {pos : Pos} {es : List PySem.Expr} {ns : List Int} {s : Shared} {Q : List Value → Shared → Prop} (hs : IntLits es ns)
    (h : ∀ vs tk', IntsAre vs ns → Q vs { s with toks := tk' }) : wpAny (model prog w) A (spliced (backTo pos (starEach es env))) Q E s := by
  induction hs generalizing Q s with
  | nil => exact spliced_none (h [] s.toks .nil)
  | cons x k p _ ih => exact args_cons (wpAny_Constant_int (ih fun vs tk' hv => h (.int x s.toks :: vs) tk' (.cons _ _ hv)))
theorem sub_refl {α : Type} {l : List α} : ∀ p ∈ l, p ∈ l := fun _ h => h
theorem sub_nil {α : Type} {r : List α} : ∀ p ∈ ([] : List α), p ∈ r := fun _ h => nomatch h
theorem sub_cons {α : Type} {x : α} {l r : List α} (h : ∀ p ∈ l, p ∈ r) : ∀ p ∈ l, p ∈ x :: r := fun p hp => .tail _ (h p hp)
theorem sub_both {α : Type} {x : α} {l r : List α} (h : ∀ p ∈ l, p ∈ r) : ∀ p ∈ x :: l, p ∈ x :: r := fun p hp => by
  rcases List.mem_cons.mp hp with rfl | hp
  · exact .head _
  · exact .tail _ (h p hp)
theorem ite_no {b : Bool} {x y : Int} (h : b = false) : (if b = true then x else y) = y := by subst h; rfl
theorem ite_yes {b : Bool} {x y : Int} (h : b = true) : (if b = true then x else y) = x := by subst h; rfl
theorem zero_of {i : Int} (h0 : 0 ≤ i) (h1 : i < 1) : i = 0 := by omega

/-- how tightly an operator binds: the def's own table -/
noncomputable def prec (op : Str) : Int :=
  if (op == Str.ofString "||") = true then 1 else if (op == Str.ofString "&&") = true then 2 else if (op == Str.ofString "|") = true then 3
  else if ([Str.ofString "^", Str.ofString "~^", Str.ofString "^~"].any fun x => x == op) = true then 4
  else if (op == Str.ofString "&") = true then 5
  else if ([Str.ofString "==", Str.ofString "!=", Str.ofString "===", Str.ofString "!=="].any fun x => x == op) = true then 6
  else if ([Str.ofString "<", Str.ofString "<=", Str.ofString ">", Str.ofString ">="].any fun x => x == op) = true then 7
  else if ([Str.ofString "<<", Str.ofString ">>", Str.ofString "<<<", Str.ofString ">>>"].any fun x => x == op) = true then 8
  else if ([Str.ofString "+", Str.ofString "-"].any fun x => x == op) = true then 9
  else if ([Str.ofString "*", Str.ofString "/", Str.ofString "%"].any fun x => x == op) = true then 10
  else if (op == Str.ofString "**") = true then 11 else 0

set_option maxHeartbeats 0 in
theorem does_prec (w : World) (mean : ExcName → Option Value) (mg mb : Str → Option Value) (news : List (Addr × Obj)) (op : Str) (t : Tok) :
    Does w mean mg mb 21 1 8 news [.str op t] (Gives news fun v => ∃ t', v = .int (prec op) t') := by
  k_with_none
  k_with "spliced" => (k_here; (with_reducible show wpAny _ _ (spliced (backTo _ (starEach (Expr.Constant _ _ _ :: _) _))) _ _ _); k_dflt (refine' spliced_strs ?_ ?_); rotate_left; (focus ((repeat constructor); done)); intro vs8 tk8 sv8)
  w_top off
  unfold Does
  k_fill
  intro dp un gd cn cs a ccd cl outer A₀ base h₀ L m s Q E B F X N T hk hroom hunits hret
  refine wpAny_call ?_
  k_dflt ktr_enter
  k_steps
  all_goals (refine does_ret hret (by k_asm) (by k_asm) (fun p hp => by simp only [List.mem_cons, hp, or_true]) ⟨_, congrArg (fun i => Value.int i _) ?_⟩)
  all_goals (refine Eq.symm ?_; unfold prec; (repeat (refine (ite_no (by assumption)).trans ?_)); first | exact ite_yes (by assumption) | rfl)

/-- an expression tree, as the law builds it -/
inductive T where
  | id (x : Str)
  | un (op : Str) (t : T)
  | bin (op : Str) (l r : T)
  | cond (c a b : T)

noncomputable abbrev names : List Str := [(Str.ofString "a"), (Str.ofString "b"), (Str.ofString "c")]
noncomputable abbrev unops : List Str := [(Str.ofString "-"), (Str.ofString "~"), (Str.ofString "!"), (Str.ofString "&"), (Str.ofString "~|")]
noncomputable abbrev binops : List Str := [(Str.ofString "||"), (Str.ofString "&&"), (Str.ofString "|"), (Str.ofString "^"), (Str.ofString "~^"), (Str.ofString "^~"), (Str.ofString "&"), (Str.ofString "=="), (Str.ofString "!="), (Str.ofString "==="), (Str.ofString "!=="), (Str.ofString "<"), (Str.ofString "<="), (Str.ofString ">"), (Str.ofString ">="), (Str.ofString "<<"), (Str.ofString ">>"), (Str.ofString "<<<"), (Str.ofString ">>>"), (Str.ofString "+"), (Str.ofString "-"), (Str.ofString "*"), (Str.ofString "/"), (Str.ofString "%"), (Str.ofString "**")]

/-- of height at most n, its names and operators the law's -/
noncomputable def Good : Nat → T → Prop
  | _, .id x => x ∈ names
  | n + 1, .un op t => op ∈ unops ∧ Good n t
  | n + 1, .bin op l r => op ∈ binops ∧ Good n l ∧ Good n r
  | n + 1, .cond c a b => Good n c ∧ Good n a ∧ Good n b
  | 0, _ => False

noncomputable abbrev tupO (vs : List Value) (n : Nat) : Obj := { cls := .type "tuple", data := .seq vs.toArray n }

noncomputable abbrev listO (vs : List Value) (n : Nat) : Obj := W.listOf vs.toArray n

/-- the ledger bears the tree at v -/
inductive TIn (news : List (Addr × Obj)) : Value → T → Prop where
  | id {a : Addr} {x : Str} {t1 t2 t3 : Tok} {n : Nat} : (a, tupO [.str ((Str.ofString "id")) t1, .int 0 t2, .str x t3] n) ∈ news → TIn news (.ref a) (.id x)
  | un {a : Addr} {op : Str} {t1 t2 t3 : Tok} {n : Nat} {v : Value} {t : T} : (a, tupO [.str ((Str.ofString "un")) t1, .int 0 t2, .str op t3, v] n) ∈ news → TIn news v t → TIn news (.ref a) (.un op t)
  | bin {a : Addr} {op : Str} {t1 t2 t3 : Tok} {n : Nat} {v u : Value} {l r : T} : (a, tupO [.str ((Str.ofString "bin")) t1, .int 0 t2, .str op t3, v, u] n) ∈ news → TIn news v l → TIn news u r → TIn news (.ref a) (.bin op l r)
  | cond {a : Addr} {t1 t2 : Tok} {n : Nat} {v u x : Value} {c l r : T} : (a, tupO [.str ((Str.ofString "cond")) t1, .int 0 t2, v, u, x] n) ∈ news → TIn news v c → TIn news u l → TIn news x r → TIn news (.ref a) (.cond c l r)
theorem TIn.mono {news news' : List (Addr × Obj)} {v : Value} {t : T} (h : TIn news v t) (hs : ∀ p ∈ news, p ∈ news') : TIn news' v t := by
  induction h with
  | id hm => exact .id (hs _ hm)
  | un hm _ ih => exact .un (hs _ hm) ih
  | bin hm _ _ i1 i2 => exact .bin (hs _ hm) i1 i2
  | cond hm _ _ _ i1 i2 i3 => exact .cond (hs _ hm) i1 i2 i3

noncomputable def rankT : T → Int
  | .id _ => 13
  | .un .. => 12
  | .bin op .. => prec op
  | .cond .. => 0
/-- in brackets, where asked -/
noncomputable def wrap (b : Bool) (x : Str) : Str := if b = true then (Str.ofString "(") ++ x ++ (Str.ofString ")") else x
/-- what expr_text gives -/
noncomputable def etext : T → Str
  | .id x => x
  | .un op t => op ++ wrap (decide (rankT t < 13)) (etext t)
  | .bin op l r => wrap (decide (rankT l < prec op)) (etext l) ++ (Str.ofString " ") ++ op ++ (Str.ofString " ") ++ wrap (decide (rankT r < prec op + 1)) (etext r)
  | .cond c a b => wrap (decide (rankT c < 1)) (etext c) ++ (Str.ofString " ? ") ++ wrap (decide (rankT a < 1)) (etext a) ++ (Str.ofString " : ") ++ etext b

theorem does_use {w : World} {mean : ExcName → Option Value} {mg mb : Str → Option Value} {f : Addr} {dd du : Nat} {news : List (Addr × Obj)} {vs : List Value} {Post : Value → List (Addr × Obj) → Prop}
    {dp un : Nat} {gd : Option (List Code)} {cn : Str} {cs : Scope} {a : Addr} {ccd : Value} {cl : List (Str × Addr)} {outer : List Env} {A₀ : Around} {base h₀ : Heap} {L : Addr} {m : Str → Option Value} {s : Shared}
    {Q E : Value → Shared → Prop} (B : Below A₀ base outer h₀) (F : Fr h₀ L s.heap m) (X : (hd.heap_39 w.params).In h₀) (N : News h₀ L s.heap news) (T : Top hd.view_39 (looseW hd.view_39 []) mean mg mb h₀) (C : Does w mean mg mb f dd du news vs Post)
    (hk : cs.kind = .function) (hd : dp + dd < recursionLimit) (hu : un + du < cLine)
    (ret : ∀ r h' tk' news', Fr h₀ L h' m → News h₀ L h' news' → Post r news' → Q r { s with heap := h', toks := tk' }) :
    wpAny (model PySem.Challenge.rw_on0100_01.row.prog w) (ktrTop dp un gd cn cs L a ccd cl outer) (call (.ref f) vs) Q E s := C _ _ _ _ _ _ _ _ _ _ _ _ _ _ _ _ _ B F X N T hk hd hu ret
theorem does_useL {w : World} {mean : ExcName → Option Value} {mg mb : Str → Option Value} {f : Addr} {dd du : Nat} {news : List (Addr × Obj)} {vs : List Value} {Post : Value → List (Addr × Obj) → Prop}
    {dp un : Nat} {gd : Option (List Code)} {cn : Str} {cs : Scope} {a : Addr} {ccd : Value} {cl : List (Str × Addr)} {outer : List Env} {A₀ : Around} {base h₀ : Heap} {L : Addr} {m : Str → Option Value} {s : Shared}
    {Q E : Value → Shared → Prop} (B : Below A₀ base outer h₀) (F : Fr h₀ L s.heap m) (X : (hd.heap_39 w.params).In h₀) (T : Top hd.view_39 (looseW hd.view_39 []) mean mg mb h₀) (C : Does w mean mg mb f dd du news vs Post) (N : News h₀ L s.heap news)
    (hk : cs.kind = .function) (hd : dp + dd < recursionLimit) (hu : un + du < cLine)
    (ret : ∀ r h' tk' news', Fr h₀ L h' m → News h₀ L h' news' → Post r news' → Q r { s with heap := h', toks := tk' }) :
    wpAny (model PySem.Challenge.rw_on0100_01.row.prog w) (ktrTop dp un gd cn cs L a ccd cl outer) (call (.ref f) vs) Q E s := C _ _ _ _ _ _ _ _ _ _ _ _ _ _ _ _ _ B F X N T hk hd hu ret



set_option maxHeartbeats 0 in
theorem does_rank (w : World) (mean : ExcName → Option Value) (mg mb : Str → Option Value) (news : List (Addr × Obj)) (v : Value) (t : T) (ht : TIn news v t) :
    Does w mean mg mb 77 2 16 news [v] (Gives news fun v => ∃ t', v = .int (rankT t) t') := by
  k_with_none
  k_with "call ref" => (k_here; (with_reducible show wpAny _ _ (call (Value.ref 21) _) _ _ _); k_dflt (refine does_use (f := 21) (by k_asm) (by k_asm) (by k_asm) (by k_asm) (by k_asm) (by exact does_prec _ _ _ _ _ _ _) (by first | exact rfl | assumption) (by ((try simp only [depth_under_make, depth_under_kw, depth_in1, depth_deeper, depth_caller, recursionLimit] at *); (try dsimp only [ktrTop] at *); omega)) (by ((try simp only [units_in1, units_deeper, Around.mark_units, units_caller, cLine] at *); (try dsimp only [ktrTop] at *); omega)) ?_; (intro r9 h9 tk9 n9 F9 N9 hp9; obtain ⟨e9, t9, f9⟩ := hp9; subst e9; subst f9); (try dsimp only); (try k_fold)); skip)
  cases ht
  all_goals (
    w_top off
    unfold Does
    k_fill
    intro dp un gd cn cs a ccd cl outer A₀ base h₀ L m s Q E B F X N T hk hroom hunits hret
    refine wpAny_call ?_
    k_dflt ktr_enter
    k_steps
    exact does_ret hret (by k_asm) (by k_asm) (fun p hp => hp) ⟨_, rfl⟩)

/-- the three numbers stand side by side -/
noncomputable def scan3 (a b c : Nat) : List Nat → Bool
  | [] => false
  | x :: r => (match r with | y :: z :: _ => x == a && y == b && z == c | _ => false) || scan3 a b c r
theorem scan3_take {a b c : Nat} : ∀ (i : Nat) (l : List Nat), (l.drop i).take 3 = [a, b, c] → scan3 a b c l = true
  | 0, l, h => by
    match l, h with
    | x :: y :: z :: r, h => simp at h; simp [scan3, h]
  | i + 1, [], h => by simp at h
  | i + 1, x :: r, h => by
    have := scan3_take i r (by simpa using h)
    simp [scan3, this]
theorem not_found {x y : Str} {a b c : Nat} (hy : y.cps.toList = [a, b, c]) (h : scan3 a b c x.cps.toList = false) : (!(!(Builtin.Str.occurrences x y 0 x.length 1).isEmpty)) = true := by
  cases hf : (!(Builtin.Str.occurrences x y 0 x.length 1).isEmpty) with
  | false => rfl
  | true =>
    obtain ⟨i, _, hi⟩ := (StrLaws.found_iff x y).mp hf
    have h2 := scan3_take (a := a) (b := b) (c := c) i x.cps.toList (by
      have := (StrLaws.subAt_eq x y i)
      rw [this] at hi
      have hl : y.length = 3 := by
        show y.cps.size = 3
        rw [← Array.length_toList, hy]; rfl
      simpa [hy, hl] using hi)
    rw [h] at h2; cases h2
/-- a text of at most 2,000 signs, in which no name of the law's stands between two blanks -/
noncomputable def KeysOk (x : Str) : Prop :=
  x.length ≤ 2000 ∧ scan3 32 97 32 (32 :: (x.cps.toList ++ [32])) = false ∧ scan3 32 98 32 (32 :: (x.cps.toList ++ [32])) = false ∧ scan3 32 99 32 (32 :: (x.cps.toList ++ [32])) = false
noncomputable def keysFit (l : List Nat) : Bool :=
  decide (l.length ≤ 2000) && (!scan3 32 97 32 (32 :: (l ++ [32]))) && (!scan3 32 98 32 (32 :: (l ++ [32]))) && (!scan3 32 99 32 (32 :: (l ++ [32])))
theorem keys_ok {s : String} {l : List Char} (h : s = String.ofList l) (hc : keysFit (l.map Char.toNat) = true) : KeysOk (Str.ofString s) := by
  subst h
  rw [PySem.W.Fast.ofString_ofList]
  unfold keysFit at hc
  simp only [Bool.and_eq_true, decide_eq_true_eq, Bool.not_eq_true'] at hc
  obtain ⟨⟨⟨h0, h1⟩, h2⟩, h3⟩ := hc
  refine ⟨?_, h1, h2, h3⟩
  show (l.map Char.toNat).toArray.size ≤ 2000
  rw [List.size_toArray]
  exact h0
theorem padded_list (x : Str) : ((Str.ofString " ") ++ x ++ (Str.ofString " ")).cps.toList = 32 :: (x.cps.toList ++ [32]) := by
  rw [PySem.Str.cps_append, PySem.Str.cps_append, Array.toList_append, Array.toList_append, show ((Str.ofString " ")).cps.toList = [32] from by decide +kernel]
  rfl

set_option maxHeartbeats 0 in
theorem does_keys (w : World) (mean : ExcName → Option Value) (mg mb : Str → Option Value) (news : List (Addr × Obj)) :
    Does w mean mg mb 49 1 8 news [] (Gives news fun v => ∃ x t', v = .str x t' ∧ x.length ≤ 2000 ∧ KeysOk x) := by
  k_with_none
  w_top off
  unfold Does
  k_fill
  intro dp un gd cn cs a ccd cl outer A₀ base h₀ L m s Q E B F X N T hk hroom hunits hret
  refine wpAny_call ?_
  k_dflt ktr_enter
  k_steps
  exact does_ret hret (by k_asm) (by k_asm) (fun p hp => hp) ⟨_, _, rfl, (keys_ok rfl (by decide +kernel)).1, keys_ok rfl (by decide +kernel)⟩




set_option maxHeartbeats 0 in
theorem does_simple (w : World) (mean : ExcName → Option Value) (mg mb : Str → Option Value) (news : List (Addr × Obj)) (x : Str) (t : Tok) (hx : x ∈ names) :
    Does w mean mg mb 56 2 16 news [.str x t] (Gives news fun v => v = .bool true) := by
  k_with_none
  k_with "call ref" => (k_here; (with_reducible show wpAny _ _ (call (Value.ref 49) _) _ _ _); k_dflt (refine does_use (f := 49) (by k_asm) (by k_asm) (by k_asm) (by k_asm) (by k_asm) (by exact does_keys _ _ _ _ _) (by first | exact rfl | assumption) (by ((try simp only [depth_under_make, depth_under_kw, depth_in1, depth_deeper, depth_caller, recursionLimit] at *); (try dsimp only [ktrTop] at *); omega)) (by ((try simp only [units_in1, units_deeper, Around.mark_units, units_caller, cLine] at *); (try dsimp only [ktrTop] at *); omega)) ?_; (intro r9 h9 tk9 n9 F9 N9 hp9; obtain ⟨e9, x9, t9, f9, l9, k9⟩ := hp9; subst e9; subst f9); (try dsimp only); (try k_fold)); skip)
  k_with "UnrEnd" => (refine UnrEnd.intro (by assumption) (by assumption) _ (by intro p9 hp9; simpa only [List.mem_cons] using hp9) (fun p hp => Nat.ne_of_lt ((by assumption : ∀ p ∈ _, p.1 < _) p hp)) ?_)
  k_with "leaving ref" => (exfalso; (have ue9 := (by assumption : _ ∨ _)); revert ue9; decide +kernel)
  have h3 : x = (Str.ofString "a") ∨ x = (Str.ofString "b") ∨ x = (Str.ofString "c") := by simpa [names] using hx
  clear hx
  rcases h3 with h3 | h3 | h3
  all_goals subst h3
  all_goals (
    w_top off
    unfold Does
    k_fill
    intro dp un gd cn cs a ccd cl outer A₀ base h₀ L m s Q E B F X N T hk hroom hunits hret
    refine wpAny_call ?_
    k_dflt ktr_enter
    k_steps
    exact does_ret hret (by k_asm) (by k_asm) (fun p hp => hp) (congrArg Value.bool (by first | exact not_found (a := 32) (b := 97) (c := 32) (by decide +kernel) (by rw [padded_list]; exact (by assumption : KeysOk _).2.1) | exact not_found (a := 32) (b := 98) (c := 32) (by decide +kernel) (by rw [padded_list]; exact (by assumption : KeysOk _).2.2.1) | exact not_found (a := 32) (b := 99) (c := 32) (by decide +kernel) (by rw [padded_list]; exact (by assumption : KeysOk _).2.2.2))))



set_option maxHeartbeats 0 in
theorem does_id (w : World) (mean : ExcName → Option Value) (mg mb : Str → Option Value) (news : List (Addr × Obj)) (x : Str) (t : Tok) (hx : x ∈ names) :
    Does w mean mg mb 63 3 24 news [.str x t] (Gives news fun v => ∃ t', v = .str x t') := by
  k_with_none
  k_with "call ref" => (k_here; (with_reducible show wpAny _ _ (call (Value.ref 49) _) _ _ _); k_dflt (refine does_use (f := 49) (by k_asm) (by k_asm) (by k_asm) (by k_asm) (by k_asm) (by exact does_keys _ _ _ _ _) (by first | exact rfl | assumption) (by ((try simp only [depth_under_make, depth_under_kw, depth_in1, depth_deeper, depth_caller, recursionLimit] at *); (try dsimp only [ktrTop] at *); omega)) (by ((try simp only [units_in1, units_deeper, Around.mark_units, units_caller, cLine] at *); (try dsimp only [ktrTop] at *); omega)) ?_; (intro r9 h9 tk9 n9 F9 N9 hp9; obtain ⟨e9, x9, t9, f9, l9, k9⟩ := hp9; subst e9; subst f9); (try dsimp only); (try k_fold)); skip)
  k_with "UnrEnd" => (refine UnrEnd.intro (by assumption) (by assumption) _ (by intro p9 hp9; simpa only [List.mem_cons] using hp9) (fun p hp => Nat.ne_of_lt ((by assumption : ∀ p ∈ _, p.1 < _) p hp)) ?_)
  k_with "leaving ref" => (exfalso; (have ue9 := (by assumption : _ ∨ _)); revert ue9; decide +kernel)
  k_with "call ref" => (k_here; (with_reducible show wpAny _ _ (call (Value.ref 56) _) _ _ _); k_dflt (refine does_use (f := 56) (by k_asm) (by k_asm) (by k_asm) (by k_asm) (by k_asm) (by exact does_simple _ _ _ _ _ _ _ (by simp only [names, List.mem_cons, true_or, or_true])) (by first | exact rfl | assumption) (by ((try simp only [depth_under_make, depth_under_kw, depth_in1, depth_deeper, depth_caller, recursionLimit] at *); (try dsimp only [ktrTop] at *); omega)) (by ((try simp only [units_in1, units_deeper, Around.mark_units, units_caller, cLine] at *); (try dsimp only [ktrTop] at *); omega)) ?_; (intro r9 h9 tk9 n9 F9 N9 hp9; obtain ⟨e9, f9⟩ := hp9; subst e9; subst f9); (try dsimp only); (try k_fold)); skip)
  have h3 : x = (Str.ofString "a") ∨ x = (Str.ofString "b") ∨ x = (Str.ofString "c") := by simpa [names] using hx
  clear hx
  rcases h3 with h3 | h3 | h3
  all_goals subst h3
  all_goals (
    w_top off
    unfold Does
    k_fill
    intro dp un gd cn cs a ccd cl outer A₀ base h₀ L m s Q E B F X N T hk hroom hunits hret
    refine wpAny_call ?_
    k_dflt ktr_enter
    k_steps
    exact does_ret hret (by k_asm) (by k_asm) (fun p hp => hp) ⟨_, rfl⟩)

theorem ofString_len1 : ((Str.ofString "(")).length = 1 ∧ ((Str.ofString ")")).length = 1 ∧ ((Str.ofString " ")).length = 1 ∧ ((Str.ofString " ? ")).length = 3 ∧ ((Str.ofString " : ")).length = 3 := by decide +kernel
theorem wrap_length (b : Bool) (x : Str) : (wrap b x).length ≤ x.length + 2 := by
  unfold wrap
  have h := ofString_len1
  split
  · simp only [PySem.Str.length_append]; omega
  · omega
theorem unop_length {op : Str} (h : op ∈ unops) : op.length ≤ 2 := by
  have : ∀ x ∈ unops, x.length ≤ 2 := by decide +kernel
  exact this op h
theorem binop_length {op : Str} (h : op ∈ binops) : op.length ≤ 3 := by
  have : ∀ x ∈ binops, x.length ≤ 3 := by decide +kernel
  exact this op h
theorem name_length {x : Str} (h : x ∈ names) : x.length ≤ 1 := by
  have : ∀ x ∈ names, x.length ≤ 1 := by decide +kernel
  exact this x h
theorem etext_len : ∀ (n : Nat) (t : T), Good n t → (etext t).length ≤ 7 * 3 ^ n - 6
  | n, .id x, h => by
    have h1 := name_length (show x ∈ names by cases n <;> exact h)
    have : 1 ≤ 3 ^ n := Nat.pow_pos (by decide)
    show x.length ≤ _
    omega
  | n + 1, .un op t, h => by
    have h1 := unop_length h.1
    have h2 := etext_len n t h.2
    have h3 := wrap_length (decide (rankT t < 13)) (etext t)
    have : 1 ≤ 3 ^ n := Nat.pow_pos (by decide)
    show (op ++ wrap _ (etext t)).length ≤ _
    simp only [PySem.Str.length_append, Nat.pow_succ]
    omega
  | n + 1, .bin op l r, h => by
    have h1 := binop_length h.1
    have h2 := etext_len n l h.2.1
    have h2' := etext_len n r h.2.2
    have h3 := wrap_length (decide (rankT l < prec op)) (etext l)
    have h3' := wrap_length (decide (rankT r < prec op + 1)) (etext r)
    have h4 := ofString_len1
    have : 1 ≤ 3 ^ n := Nat.pow_pos (by decide)
    show (wrap _ (etext l) ++ (Str.ofString " ") ++ op ++ (Str.ofString " ") ++ wrap _ (etext r)).length ≤ _
    simp only [PySem.Str.length_append, Nat.pow_succ]
    omega
  | n + 1, .cond c a b, h => by
    have h2 := etext_len n c h.1
    have h2' := etext_len n a h.2.1
    have h2'' := etext_len n b h.2.2
    have h3 := wrap_length (decide (rankT c < 1)) (etext c)
    have h3' := wrap_length (decide (rankT a < 1)) (etext a)
    have h4 := ofString_len1
    have : 1 ≤ 3 ^ n := Nat.pow_pos (by decide)
    show (wrap _ (etext c) ++ (Str.ofString " ? ") ++ wrap _ (etext a) ++ (Str.ofString " : ") ++ etext b).length ≤ _
    simp only [PySem.Str.length_append, Nat.pow_succ]
    omega
  | 0, .un .., h => h.elim
  | 0, .bin .., h => h.elim
  | 0, .cond .., h => h.elim
theorem etext_short {n : Nat} {t : T} (h : Good n t) (hn : n ≤ 5) : (etext t).length ≤ 2000 := by
  have h1 := etext_len n t h
  have : 3 ^ n ≤ 3 ^ 5 := Nat.pow_le_pow_right (by decide) hn
  have : 3 ^ 5 = 243 := by decide
  omega

/-- a text, its value and a bound of its length told -/
noncomputable abbrev TextIs (e : Str) (B : Nat) (v : Value) : Prop := ∃ x t', v = .str x t' ∧ x = e ∧ x.length ≤ B




theorem operand_in {x : Str} {e : T} {least : Int} {t' : Tok} (h : x = etext e) (hl : x.length ≤ 2000) (c : rankT e < least) : TextIs (wrap (decide (rankT e < least)) (etext e)) 2002 (.str ((Str.ofString "(") ++ x ++ (Str.ofString ")")) t') :=
  ⟨_, _, rfl, by subst h; rw [decide_eq_true c]; rfl, by have h4 := ofString_len1; simp only [PySem.Str.length_append]; omega⟩
theorem operand_out {x : Str} {e : T} {least : Int} {t' : Tok} (h : x = etext e) (hl : x.length ≤ 2000) (c : ¬ rankT e < least) : TextIs (wrap (decide (rankT e < least)) (etext e)) 2002 (.str x t') :=
  ⟨_, _, rfl, by subst h; rw [decide_eq_false c]; rfl, by omega⟩

set_option maxHeartbeats 0 in
theorem does_operand (w : World) (mean : ExcName → Option Value) (mg mb : Str → Option Value) (news : List (Addr × Obj)) (v : Value) (t : T) (least : Int) (tk : Tok) (n : Nat) (ht : TIn news v t)
    (hE : Does w mean mg mb 112 (2 * n + 4) (16 * n + 40) news [v] (Gives news (TextIs (etext t) 2000))) :
    Does w mean mg mb 84 (2 * n + 5) (16 * n + 48) news [v, .int least tk] (Gives news (TextIs (wrap (decide (rankT t < least)) (etext t)) 2002)) := by
  k_with_none
  k_with "call ref" => (k_here; (with_reducible show wpAny _ _ (call (Value.ref 77) _) _ _ _); k_dflt (refine does_use (f := 77) (by k_asm) (by k_asm) (by k_asm) (by k_asm) (by k_asm) (by exact does_rank _ _ _ _ _ _ _ (by assumption)) (by first | exact rfl | assumption) (by ((try simp only [depth_under_make, depth_under_kw, depth_in1, depth_deeper, depth_caller, recursionLimit] at *); (try dsimp only [ktrTop] at *); omega)) (by ((try simp only [units_in1, units_deeper, Around.mark_units, units_caller, cLine] at *); (try dsimp only [ktrTop] at *); omega)) ?_; (intro r9 h9 tk9 n9 F9 N9 hp9; obtain ⟨e9, t9, f9⟩ := hp9; subst e9; subst f9); (try dsimp only); (try k_fold)); skip)
  k_with "call ref" => (k_here; (with_reducible show wpAny _ _ (call (Value.ref 112) _) _ _ _); k_dflt (refine does_use (f := 112) (by k_asm) (by k_asm) (by k_asm) (by k_asm) (by k_asm) (by assumption) (by first | exact rfl | assumption) (by ((try simp only [depth_under_make, depth_under_kw, depth_in1, depth_deeper, depth_caller, recursionLimit] at *); (try dsimp only [ktrTop] at *); omega)) (by ((try simp only [units_in1, units_deeper, Around.mark_units, units_caller, cLine] at *); (try dsimp only [ktrTop] at *); omega)) ?_; (intro r9 h9 tk9 n9 F9 N9 hp9; obtain ⟨e9, x9, t9, f9, v9, l9⟩ := hp9; subst e9; subst f9); (try dsimp only); (try k_fold)); skip)
  w_top off
  unfold Does
  k_fill
  intro dp un gd cn cs a ccd cl outer A₀ base h₀ L m s Q E B F X N T hk hroom hunits hret
  refine wpAny_call ?_
  k_dflt ktr_enter
  k_steps
  all_goals exact does_ret hret (by k_asm) (by k_asm) (fun p hp => hp) (by first | exact operand_in (by assumption) (by assumption) (by assumption) | exact operand_out (by assumption) (by assumption) (by assumption))





theorem empty_add (x : Str) : Str.empty ++ x = x := Str.ext' (by rw [Str.cps_append]; exact Array.empty_append)
theorem end_un {op x : Str} {t : T} {t' : Tok} (h : x = wrap (decide (rankT t < 13)) (etext t)) (hs : (etext (.un op t)).length ≤ 2000) : TextIs (etext (.un op t)) 2000 (.str (op ++ x) t') := by
  subst h; exact ⟨_, _, rfl, rfl, hs⟩
theorem end_bin {op x y : Str} {l r : T} {t' : Tok} (h : x = wrap (decide (rankT l < prec op)) (etext l)) (h' : y = wrap (decide (rankT r < prec op + 1)) (etext r)) (hs : (etext (.bin op l r)).length ≤ 2000) :
    TextIs (etext (.bin op l r)) 2000 (.str (Str.empty ++ x ++ (Str.ofString " ") ++ op ++ (Str.ofString " ") ++ y) t') := by
  subst h h'; rw [empty_add]; exact ⟨_, _, rfl, rfl, hs⟩
theorem end_cond {x y z : Str} {c l r : T} {t' : Tok} (h : x = wrap (decide (rankT c < 1)) (etext c)) (h' : y = wrap (decide (rankT l < 1)) (etext l)) (h'' : z = etext r) (hs : (etext (.cond c l r)).length ≤ 2000) :
    TextIs (etext (.cond c l r)) 2000 (.str (Str.empty ++ x ++ (Str.ofString " ? ") ++ y ++ (Str.ofString " : ") ++ z) t') := by
  subst h h' h''; rw [empty_add]; exact ⟨_, _, rfl, rfl, hs⟩

set_option maxHeartbeats 0 in
theorem expr_id (w : World) (mean : ExcName → Option Value) (mg mb : Str → Option Value) (news : List (Addr × Obj)) (v : Value) (x : Str) (n : Nat) (ht : TIn news v (.id x)) (hx : x ∈ names) :
    Does w mean mg mb 112 (2 * n + 4) (16 * n + 40) news [v] (Gives news (TextIs (etext (.id x)) 2000)) := by
  k_with_none
  k_with "call ref" => (k_here; (with_reducible show wpAny _ _ (call (Value.ref 77) _) _ _ _); k_dflt (refine does_use (f := 77) (by k_asm) (by k_asm) (by k_asm) (by k_asm) (by k_asm) (by exact does_rank _ _ _ _ _ _ _ (by assumption)) (by first | exact rfl | assumption) (by ((try simp only [depth_under_make, depth_under_kw, depth_in1, depth_deeper, depth_caller, recursionLimit] at *); (try dsimp only [ktrTop] at *); omega)) (by ((try simp only [units_in1, units_deeper, Around.mark_units, units_caller, cLine] at *); (try dsimp only [ktrTop] at *); omega)) ?_; (intro r9 h9 tk9 n9 F9 N9 hp9; obtain ⟨e9, t9, f9⟩ := hp9; subst e9; subst f9); (try dsimp only); (try k_fold)); skip)
  k_with "call ref" => (k_here; (with_reducible show wpAny _ _ (call (Value.ref 112) _) _ _ _); k_dflt (refine does_use (f := 112) (by k_asm) (by k_asm) (by k_asm) (by k_asm) (by k_asm) (by assumption) (by first | exact rfl | assumption) (by ((try simp only [depth_under_make, depth_under_kw, depth_in1, depth_deeper, depth_caller, recursionLimit] at *); (try dsimp only [ktrTop] at *); omega)) (by ((try simp only [units_in1, units_deeper, Around.mark_units, units_caller, cLine] at *); (try dsimp only [ktrTop] at *); omega)) ?_; (intro r9 h9 tk9 n9 F9 N9 hp9; obtain ⟨e9, x9, t9, f9, v9, l9⟩ := hp9; subst e9; subst f9); (try dsimp only); (try k_fold)); skip)
  k_with "call ref" => (k_here; (with_reducible show wpAny _ _ (call (Value.ref 84) _) _ _ _); k_dflt (refine does_use (f := 84) (by k_asm) (by k_asm) (by k_asm) (by k_asm) (by k_asm) (by exact does_operand _ _ _ _ _ _ _ _ _ _ (by assumption) (by assumption)) (by first | exact rfl | assumption) (by ((try simp only [depth_under_make, depth_under_kw, depth_in1, depth_deeper, depth_caller, recursionLimit] at *); (try dsimp only [ktrTop] at *); omega)) (by ((try simp only [units_in1, units_deeper, Around.mark_units, units_caller, cLine] at *); (try dsimp only [ktrTop] at *); omega)) ?_; (intro r9 h9 tk9 n9 F9 N9 hp9; obtain ⟨e9, x9, t9, f9, v9, l9⟩ := hp9; subst e9; subst f9); (try dsimp only); (try k_fold)); skip)
  k_with "call ref" => (k_here; (with_reducible show wpAny _ _ (call (Value.ref 63) _) _ _ _); k_dflt (refine does_use (f := 63) (by k_asm) (by k_asm) (by k_asm) (by k_asm) (by k_asm) (by exact does_id _ _ _ _ _ _ _ (by assumption)) (by first | exact rfl | assumption) (by ((try simp only [depth_under_make, depth_under_kw, depth_in1, depth_deeper, depth_caller, recursionLimit] at *); (try dsimp only [ktrTop] at *); omega)) (by ((try simp only [units_in1, units_deeper, Around.mark_units, units_caller, cLine] at *); (try dsimp only [ktrTop] at *); omega)) ?_; (intro r9 h9 tk9 n9 F9 N9 hp9; obtain ⟨e9, t9, f9⟩ := hp9; subst e9; subst f9); (try dsimp only); (try k_fold)); skip)
  k_with "call ref" => (k_here; (with_reducible show wpAny _ _ (call (Value.ref 21) _) _ _ _); k_dflt (refine does_use (f := 21) (by k_asm) (by k_asm) (by k_asm) (by k_asm) (by k_asm) (by exact does_prec _ _ _ _ _ _ _) (by first | exact rfl | assumption) (by ((try simp only [depth_under_make, depth_under_kw, depth_in1, depth_deeper, depth_caller, recursionLimit] at *); (try dsimp only [ktrTop] at *); omega)) (by ((try simp only [units_in1, units_deeper, Around.mark_units, units_caller, cLine] at *); (try dsimp only [ktrTop] at *); omega)) ?_; (intro r9 h9 tk9 n9 F9 N9 hp9; obtain ⟨e9, t9, f9⟩ := hp9; subst e9; subst f9); (try dsimp only); (try k_fold)); skip)
  have hl := name_length hx
  cases ht
  w_top off
  unfold Does
  k_fill
  intro dp un gd cn cs a ccd cl outer A₀ base h₀ L m s Q E B F X N T hk hroom hunits hret
  refine wpAny_call ?_
  k_dflt ktr_enter
  k_steps
  exact does_ret hret (by k_asm) (by k_asm) (fun p hp => hp) ⟨_, _, rfl, rfl, by omega⟩

set_option maxHeartbeats 0 in
theorem expr_un (w : World) (mean : ExcName → Option Value) (mg mb : Str → Option Value) (news : List (Addr × Obj)) (v : Value) (op : Str) (t : T) (n : Nat) (hn : n ≤ 4) (ht : TIn news v (.un op t)) (hx : op ∈ unops) (hg : Good n t)
    (ih : ∀ v t, TIn news v t → Good n t → Does w mean mg mb 112 (2 * n + 4) (16 * n + 40) news [v] (Gives news (TextIs (etext t) 2000))) :
    Does w mean mg mb 112 (2 * (n + 1) + 4) (16 * (n + 1) + 40) news [v] (Gives news (TextIs (etext (.un op t)) 2000)) := by
  k_with_none
  k_with "call ref" => (k_here; (with_reducible show wpAny _ _ (call (Value.ref 77) _) _ _ _); k_dflt (refine does_use (f := 77) (by k_asm) (by k_asm) (by k_asm) (by k_asm) (by k_asm) (by exact does_rank _ _ _ _ _ _ _ (by assumption)) (by first | exact rfl | assumption) (by ((try simp only [depth_under_make, depth_under_kw, depth_in1, depth_deeper, depth_caller, recursionLimit] at *); (try dsimp only [ktrTop] at *); omega)) (by ((try simp only [units_in1, units_deeper, Around.mark_units, units_caller, cLine] at *); (try dsimp only [ktrTop] at *); omega)) ?_; (intro r9 h9 tk9 n9 F9 N9 hp9; obtain ⟨e9, t9, f9⟩ := hp9; subst e9; subst f9); (try dsimp only); (try k_fold)); skip)
  k_with "call ref" => (k_here; (with_reducible show wpAny _ _ (call (Value.ref 112) _) _ _ _); k_dflt (refine does_use (f := 112) (by k_asm) (by k_asm) (by k_asm) (by k_asm) (by k_asm) (by assumption) (by first | exact rfl | assumption) (by ((try simp only [depth_under_make, depth_under_kw, depth_in1, depth_deeper, depth_caller, recursionLimit] at *); (try dsimp only [ktrTop] at *); omega)) (by ((try simp only [units_in1, units_deeper, Around.mark_units, units_caller, cLine] at *); (try dsimp only [ktrTop] at *); omega)) ?_; (intro r9 h9 tk9 n9 F9 N9 hp9; obtain ⟨e9, x9, t9, f9, v9, l9⟩ := hp9; subst e9; subst f9); (try dsimp only); (try k_fold)); skip)
  k_with "call ref" => (k_here; (with_reducible show wpAny _ _ (call (Value.ref 84) _) _ _ _); k_dflt (refine does_use (f := 84) (by k_asm) (by k_asm) (by k_asm) (by k_asm) (by k_asm) (by exact does_operand _ _ _ _ _ _ _ _ _ _ (by assumption) (by assumption)) (by first | exact rfl | assumption) (by ((try simp only [depth_under_make, depth_under_kw, depth_in1, depth_deeper, depth_caller, recursionLimit] at *); (try dsimp only [ktrTop] at *); omega)) (by ((try simp only [units_in1, units_deeper, Around.mark_units, units_caller, cLine] at *); (try dsimp only [ktrTop] at *); omega)) ?_; (intro r9 h9 tk9 n9 F9 N9 hp9; obtain ⟨e9, x9, t9, f9, v9, l9⟩ := hp9; subst e9; subst f9); (try dsimp only); (try k_fold)); skip)
  k_with "call ref" => (k_here; (with_reducible show wpAny _ _ (call (Value.ref 63) _) _ _ _); k_dflt (refine does_use (f := 63) (by k_asm) (by k_asm) (by k_asm) (by k_asm) (by k_asm) (by exact does_id _ _ _ _ _ _ _ (by assumption)) (by first | exact rfl | assumption) (by ((try simp only [depth_under_make, depth_under_kw, depth_in1, depth_deeper, depth_caller, recursionLimit] at *); (try dsimp only [ktrTop] at *); omega)) (by ((try simp only [units_in1, units_deeper, Around.mark_units, units_caller, cLine] at *); (try dsimp only [ktrTop] at *); omega)) ?_; (intro r9 h9 tk9 n9 F9 N9 hp9; obtain ⟨e9, t9, f9⟩ := hp9; subst e9; subst f9); (try dsimp only); (try k_fold)); skip)
  k_with "call ref" => (k_here; (with_reducible show wpAny _ _ (call (Value.ref 21) _) _ _ _); k_dflt (refine does_use (f := 21) (by k_asm) (by k_asm) (by k_asm) (by k_asm) (by k_asm) (by exact does_prec _ _ _ _ _ _ _) (by first | exact rfl | assumption) (by ((try simp only [depth_under_make, depth_under_kw, depth_in1, depth_deeper, depth_caller, recursionLimit] at *); (try dsimp only [ktrTop] at *); omega)) (by ((try simp only [units_in1, units_deeper, Around.mark_units, units_caller, cLine] at *); (try dsimp only [ktrTop] at *); omega)) ?_; (intro r9 h9 tk9 n9 F9 N9 hp9; obtain ⟨e9, t9, f9⟩ := hp9; subst e9; subst f9); (try dsimp only); (try k_fold)); skip)
  have hl := unop_length hx
  have hs := etext_short (n := n + 1) (t := .un op t) ⟨hx, hg⟩ (by omega)
  cases ht with | un hm h1 =>
  have i1 := ih _ _ h1 hg
  w_top off
  unfold Does
  k_fill
  intro dp un gd cn cs a ccd cl outer A₀ base h₀ L m s Q E B F X N T hk hroom hunits hret
  refine wpAny_call ?_
  k_dflt ktr_enter
  k_steps
  exact does_ret hret (by k_asm) (by k_asm) (fun p hp => hp) (end_un (by assumption) hs)

set_option maxHeartbeats 0 in
theorem expr_bin (w : World) (mean : ExcName → Option Value) (mg mb : Str → Option Value) (news : List (Addr × Obj)) (v : Value) (op : Str) (l r : T) (n : Nat) (hn : n ≤ 4) (ht : TIn news v (.bin op l r)) (hx : op ∈ binops) (hg : Good n l) (hg' : Good n r)
    (ih : ∀ v t, TIn news v t → Good n t → Does w mean mg mb 112 (2 * n + 4) (16 * n + 40) news [v] (Gives news (TextIs (etext t) 2000))) :
    Does w mean mg mb 112 (2 * (n + 1) + 4) (16 * (n + 1) + 40) news [v] (Gives news (TextIs (etext (.bin op l r)) 2000)) := by
  k_with_none
  k_with "call ref" => (k_here; (with_reducible show wpAny _ _ (call (Value.ref 77) _) _ _ _); k_dflt (refine does_use (f := 77) (by k_asm) (by k_asm) (by k_asm) (by k_asm) (by k_asm) (by exact does_rank _ _ _ _ _ _ _ (by assumption)) (by first | exact rfl | assumption) (by ((try simp only [depth_under_make, depth_under_kw, depth_in1, depth_deeper, depth_caller, recursionLimit] at *); (try dsimp only [ktrTop] at *); omega)) (by ((try simp only [units_in1, units_deeper, Around.mark_units, units_caller, cLine] at *); (try dsimp only [ktrTop] at *); omega)) ?_; (intro r9 h9 tk9 n9 F9 N9 hp9; obtain ⟨e9, t9, f9⟩ := hp9; subst e9; subst f9); (try dsimp only); (try k_fold)); skip)
  k_with "call ref" => (k_here; (with_reducible show wpAny _ _ (call (Value.ref 112) _) _ _ _); k_dflt (refine does_use (f := 112) (by k_asm) (by k_asm) (by k_asm) (by k_asm) (by k_asm) (by assumption) (by first | exact rfl | assumption) (by ((try simp only [depth_under_make, depth_under_kw, depth_in1, depth_deeper, depth_caller, recursionLimit] at *); (try dsimp only [ktrTop] at *); omega)) (by ((try simp only [units_in1, units_deeper, Around.mark_units, units_caller, cLine] at *); (try dsimp only [ktrTop] at *); omega)) ?_; (intro r9 h9 tk9 n9 F9 N9 hp9; obtain ⟨e9, x9, t9, f9, v9, l9⟩ := hp9; subst e9; subst f9); (try dsimp only); (try k_fold)); skip)
  k_with "call ref" => (k_here; (with_reducible show wpAny _ _ (call (Value.ref 84) _) _ _ _); k_dflt (refine does_use (f := 84) (by k_asm) (by k_asm) (by k_asm) (by k_asm) (by k_asm) (by exact does_operand _ _ _ _ _ _ _ _ _ _ (by assumption) (by assumption)) (by first | exact rfl | assumption) (by ((try simp only [depth_under_make, depth_under_kw, depth_in1, depth_deeper, depth_caller, recursionLimit] at *); (try dsimp only [ktrTop] at *); omega)) (by ((try simp only [units_in1, units_deeper, Around.mark_units, units_caller, cLine] at *); (try dsimp only [ktrTop] at *); omega)) ?_; (intro r9 h9 tk9 n9 F9 N9 hp9; obtain ⟨e9, x9, t9, f9, v9, l9⟩ := hp9; subst e9; subst f9); (try dsimp only); (try k_fold)); skip)
  k_with "call ref" => (k_here; (with_reducible show wpAny _ _ (call (Value.ref 63) _) _ _ _); k_dflt (refine does_use (f := 63) (by k_asm) (by k_asm) (by k_asm) (by k_asm) (by k_asm) (by exact does_id _ _ _ _ _ _ _ (by assumption)) (by first | exact rfl | assumption) (by ((try simp only [depth_under_make, depth_under_kw, depth_in1, depth_deeper, depth_caller, recursionLimit] at *); (try dsimp only [ktrTop] at *); omega)) (by ((try simp only [units_in1, units_deeper, Around.mark_units, units_caller, cLine] at *); (try dsimp only [ktrTop] at *); omega)) ?_; (intro r9 h9 tk9 n9 F9 N9 hp9; obtain ⟨e9, t9, f9⟩ := hp9; subst e9; subst f9); (try dsimp only); (try k_fold)); skip)
  k_with "call ref" => (k_here; (with_reducible show wpAny _ _ (call (Value.ref 21) _) _ _ _); k_dflt (refine does_use (f := 21) (by k_asm) (by k_asm) (by k_asm) (by k_asm) (by k_asm) (by exact does_prec _ _ _ _ _ _ _) (by first | exact rfl | assumption) (by ((try simp only [depth_under_make, depth_under_kw, depth_in1, depth_deeper, depth_caller, recursionLimit] at *); (try dsimp only [ktrTop] at *); omega)) (by ((try simp only [units_in1, units_deeper, Around.mark_units, units_caller, cLine] at *); (try dsimp only [ktrTop] at *); omega)) ?_; (intro r9 h9 tk9 n9 F9 N9 hp9; obtain ⟨e9, t9, f9⟩ := hp9; subst e9; subst f9); (try dsimp only); (try k_fold)); skip)
  have hl := binop_length hx
  have hs := etext_short (n := n + 1) (t := .bin op l r) ⟨hx, hg, hg'⟩ (by omega)
  cases ht with | bin hm h1 h2 =>
  have i1 := ih _ _ h1 hg
  have i2 := ih _ _ h2 hg'
  w_top off
  unfold Does
  k_fill
  intro dp un gd cn cs a ccd cl outer A₀ base h₀ L m s Q E B F X N T hk hroom hunits hret
  refine wpAny_call ?_
  k_dflt ktr_enter
  k_steps
  exact does_ret hret (by k_asm) (by k_asm) (fun p hp => hp) (end_bin (by assumption) (by assumption) hs)

set_option maxHeartbeats 0 in
theorem expr_cond (w : World) (mean : ExcName → Option Value) (mg mb : Str → Option Value) (news : List (Addr × Obj)) (v : Value) (c l r : T) (n : Nat) (hn : n ≤ 4) (ht : TIn news v (.cond c l r)) (hg : Good n c) (hg' : Good n l) (hg'' : Good n r)
    (ih : ∀ v t, TIn news v t → Good n t → Does w mean mg mb 112 (2 * n + 4) (16 * n + 40) news [v] (Gives news (TextIs (etext t) 2000))) :
    Does w mean mg mb 112 (2 * (n + 1) + 4) (16 * (n + 1) + 40) news [v] (Gives news (TextIs (etext (.cond c l r)) 2000)) := by
  k_with_none
  k_with "call ref" => (k_here; (with_reducible show wpAny _ _ (call (Value.ref 77) _) _ _ _); k_dflt (refine does_use (f := 77) (by k_asm) (by k_asm) (by k_asm) (by k_asm) (by k_asm) (by exact does_rank _ _ _ _ _ _ _ (by assumption)) (by first | exact rfl | assumption) (by ((try simp only [depth_under_make, depth_under_kw, depth_in1, depth_deeper, depth_caller, recursionLimit] at *); (try dsimp only [ktrTop] at *); omega)) (by ((try simp only [units_in1, units_deeper, Around.mark_units, units_caller, cLine] at *); (try dsimp only [ktrTop] at *); omega)) ?_; (intro r9 h9 tk9 n9 F9 N9 hp9; obtain ⟨e9, t9, f9⟩ := hp9; subst e9; subst f9); (try dsimp only); (try k_fold)); skip)
  k_with "call ref" => (k_here; (with_reducible show wpAny _ _ (call (Value.ref 112) _) _ _ _); k_dflt (refine does_use (f := 112) (by k_asm) (by k_asm) (by k_asm) (by k_asm) (by k_asm) (by assumption) (by first | exact rfl | assumption) (by ((try simp only [depth_under_make, depth_under_kw, depth_in1, depth_deeper, depth_caller, recursionLimit] at *); (try dsimp only [ktrTop] at *); omega)) (by ((try simp only [units_in1, units_deeper, Around.mark_units, units_caller, cLine] at *); (try dsimp only [ktrTop] at *); omega)) ?_; (intro r9 h9 tk9 n9 F9 N9 hp9; obtain ⟨e9, x9, t9, f9, v9, l9⟩ := hp9; subst e9; subst f9); (try dsimp only); (try k_fold)); skip)
  k_with "call ref" => (k_here; (with_reducible show wpAny _ _ (call (Value.ref 84) _) _ _ _); k_dflt (refine does_use (f := 84) (by k_asm) (by k_asm) (by k_asm) (by k_asm) (by k_asm) (by exact does_operand _ _ _ _ _ _ _ _ _ _ (by assumption) (by assumption)) (by first | exact rfl | assumption) (by ((try simp only [depth_under_make, depth_under_kw, depth_in1, depth_deeper, depth_caller, recursionLimit] at *); (try dsimp only [ktrTop] at *); omega)) (by ((try simp only [units_in1, units_deeper, Around.mark_units, units_caller, cLine] at *); (try dsimp only [ktrTop] at *); omega)) ?_; (intro r9 h9 tk9 n9 F9 N9 hp9; obtain ⟨e9, x9, t9, f9, v9, l9⟩ := hp9; subst e9; subst f9); (try dsimp only); (try k_fold)); skip)
  k_with "call ref" => (k_here; (with_reducible show wpAny _ _ (call (Value.ref 63) _) _ _ _); k_dflt (refine does_use (f := 63) (by k_asm) (by k_asm) (by k_asm) (by k_asm) (by k_asm) (by exact does_id _ _ _ _ _ _ _ (by assumption)) (by first | exact rfl | assumption) (by ((try simp only [depth_under_make, depth_under_kw, depth_in1, depth_deeper, depth_caller, recursionLimit] at *); (try dsimp only [ktrTop] at *); omega)) (by ((try simp only [units_in1, units_deeper, Around.mark_units, units_caller, cLine] at *); (try dsimp only [ktrTop] at *); omega)) ?_; (intro r9 h9 tk9 n9 F9 N9 hp9; obtain ⟨e9, t9, f9⟩ := hp9; subst e9; subst f9); (try dsimp only); (try k_fold)); skip)
  k_with "call ref" => (k_here; (with_reducible show wpAny _ _ (call (Value.ref 21) _) _ _ _); k_dflt (refine does_use (f := 21) (by k_asm) (by k_asm) (by k_asm) (by k_asm) (by k_asm) (by exact does_prec _ _ _ _ _ _ _) (by first | exact rfl | assumption) (by ((try simp only [depth_under_make, depth_under_kw, depth_in1, depth_deeper, depth_caller, recursionLimit] at *); (try dsimp only [ktrTop] at *); omega)) (by ((try simp only [units_in1, units_deeper, Around.mark_units, units_caller, cLine] at *); (try dsimp only [ktrTop] at *); omega)) ?_; (intro r9 h9 tk9 n9 F9 N9 hp9; obtain ⟨e9, t9, f9⟩ := hp9; subst e9; subst f9); (try dsimp only); (try k_fold)); skip)
  have hs := etext_short (n := n + 1) (t := .cond c l r) ⟨hg, hg', hg''⟩ (by omega)
  cases ht with | cond hm h1 h2 h3 =>
  have i1 := ih _ _ h1 hg
  have i2 := ih _ _ h2 hg'
  have i3 := ih _ _ h3 hg''
  w_top off
  unfold Does
  k_fill
  intro dp un gd cn cs a ccd cl outer A₀ base h₀ L m s Q E B F X N T hk hroom hunits hret
  refine wpAny_call ?_
  k_dflt ktr_enter
  k_steps
  exact does_ret hret (by k_asm) (by k_asm) (fun p hp => hp) (end_cond (by assumption) (by assumption) (by assumption) hs)
theorem does_expr (w : World) (mean : ExcName → Option Value) (mg mb : Str → Option Value) (news : List (Addr × Obj)) : ∀ (n : Nat), n ≤ 5 → ∀ (v : Value) (t : T), TIn news v t → Good n t →
    Does w mean mg mb 112 (2 * n + 4) (16 * n + 40) news [v] (Gives news (TextIs (etext t) 2000)) := by
  intro n
  induction n with
  | zero =>
    intro _ v t ht hg
    cases t with
    | id x => exact expr_id _ _ _ _ _ _ _ _ ht hg
    | un _ _ => exact hg.elim
    | bin _ _ _ => exact hg.elim
    | cond _ _ _ => exact hg.elim
  | succ n ih =>
    intro hn v t ht hg
    have ih := ih (by omega)
    cases t with
    | id x => exact expr_id _ _ _ _ _ _ _ _ ht hg
    | un op t => exact expr_un _ _ _ _ _ _ _ _ _ (by omega) ht hg.1 hg.2 ih
    | bin op l r => exact expr_bin _ _ _ _ _ _ _ _ _ _ (by omega) ht hg.1 hg.2.1 hg.2.2 ih
    | cond c l r => exact expr_cond _ _ _ _ _ _ _ _ _ _ (by omega) ht hg.1 hg.2.1 hg.2.2 ih

theorem lmem {p : Addr × Obj} {l : List (Addr × Obj)} (h : p ∈ l) : List.Mem p l := h
local macro_rules | `(tactic| k_mem) => `(tactic| (refine' lmem ?_; ktr_member))
/-- the operators of the k-th level, all of them, and no more than four -/
structure LvlIs (ls : List Str) (k : Int) : Prop where
  yes : (ls.all fun s => decide (prec s = k + 1)) = true
  no : (binops.all fun s => (ls.any fun x => x == s) || decide (prec s ≠ k + 1)) = true
  ops : (ls.all fun x => binops.contains x) = true
  lo : 1 ≤ ls.length
  hi : ls.length ≤ 4
/-- what _law_order's list bears -/
def OrderOk (own : List (Addr × Obj)) (b0 : Addr) (refs : List Value) : Prop :=
  ∀ j : Nat, j < 11 → ∃ bk vk ls, refs[j]? = some (.ref bk) ∧ (bk, listO vk 0) ∈ own ∧ StrsAre vk ls ∧ LvlIs ls (j : Nat) ∧ @LE.le Nat _ b0 bk
theorem lvl0 : LvlIs [(Str.ofString "||")] ((0 : Nat) : Int) := ⟨by decide +kernel, by decide +kernel, by decide +kernel, by decide, by decide⟩
theorem lvl1 : LvlIs [(Str.ofString "&&")] ((1 : Nat) : Int) := ⟨by decide +kernel, by decide +kernel, by decide +kernel, by decide, by decide⟩
theorem lvl2 : LvlIs [(Str.ofString "|")] ((2 : Nat) : Int) := ⟨by decide +kernel, by decide +kernel, by decide +kernel, by decide, by decide⟩
theorem lvl3 : LvlIs [(Str.ofString "^"), (Str.ofString "~^"), (Str.ofString "^~")] ((3 : Nat) : Int) := ⟨by decide +kernel, by decide +kernel, by decide +kernel, by decide, by decide⟩
theorem lvl4 : LvlIs [(Str.ofString "&")] ((4 : Nat) : Int) := ⟨by decide +kernel, by decide +kernel, by decide +kernel, by decide, by decide⟩
theorem lvl5 : LvlIs [(Str.ofString "=="), (Str.ofString "!="), (Str.ofString "==="), (Str.ofString "!==")] ((5 : Nat) : Int) := ⟨by decide +kernel, by decide +kernel, by decide +kernel, by decide, by decide⟩
theorem lvl6 : LvlIs [(Str.ofString "<"), (Str.ofString "<="), (Str.ofString ">"), (Str.ofString ">=")] ((6 : Nat) : Int) := ⟨by decide +kernel, by decide +kernel, by decide +kernel, by decide, by decide⟩
theorem lvl7 : LvlIs [(Str.ofString "<<"), (Str.ofString ">>"), (Str.ofString "<<<"), (Str.ofString ">>>")] ((7 : Nat) : Int) := ⟨by decide +kernel, by decide +kernel, by decide +kernel, by decide, by decide⟩
theorem lvl8 : LvlIs [(Str.ofString "+"), (Str.ofString "-")] ((8 : Nat) : Int) := ⟨by decide +kernel, by decide +kernel, by decide +kernel, by decide, by decide⟩
theorem lvl9 : LvlIs [(Str.ofString "*"), (Str.ofString "/"), (Str.ofString "%")] ((9 : Nat) : Int) := ⟨by decide +kernel, by decide +kernel, by decide +kernel, by decide, by decide⟩
theorem lvl10 : LvlIs [(Str.ofString "**")] ((10 : Nat) : Int) := ⟨by decide +kernel, by decide +kernel, by decide +kernel, by decide, by decide⟩
theorem order_ok {b0 b1 b2 b3 b4 b5 b6 b7 b8 b9 b10 : Addr} {v0 v1 v2 v3 v4 v5 v6 v7 v8 v9 v10 : List Value} (s0 : StrsAre v0 [(Str.ofString "||")]) (s1 : StrsAre v1 [(Str.ofString "&&")]) (s2 : StrsAre v2 [(Str.ofString "|")]) (s3 : StrsAre v3 [(Str.ofString "^"), (Str.ofString "~^"), (Str.ofString "^~")]) (s4 : StrsAre v4 [(Str.ofString "&")]) (s5 : StrsAre v5 [(Str.ofString "=="), (Str.ofString "!="), (Str.ofString "==="), (Str.ofString "!==")]) (s6 : StrsAre v6 [(Str.ofString "<"), (Str.ofString "<="), (Str.ofString ">"), (Str.ofString ">=")]) (s7 : StrsAre v7 [(Str.ofString "<<"), (Str.ofString ">>"), (Str.ofString "<<<"), (Str.ofString ">>>")]) (s8 : StrsAre v8 [(Str.ofString "+"), (Str.ofString "-")]) (s9 : StrsAre v9 [(Str.ofString "*"), (Str.ofString "/"), (Str.ofString "%")]) (s10 : StrsAre v10 [(Str.ofString "**")])
    (c0 : @LT.lt Nat _ b0 b1) (c1 : @LT.lt Nat _ b1 b2) (c2 : @LT.lt Nat _ b2 b3) (c3 : @LT.lt Nat _ b3 b4) (c4 : @LT.lt Nat _ b4 b5) (c5 : @LT.lt Nat _ b5 b6) (c6 : @LT.lt Nat _ b6 b7) (c7 : @LT.lt Nat _ b7 b8) (c8 : @LT.lt Nat _ b8 b9) (c9 : @LT.lt Nat _ b9 b10) :
    OrderOk [(b10, listO v10 0), (b9, listO v9 0), (b8, listO v8 0), (b7, listO v7 0), (b6, listO v6 0), (b5, listO v5 0), (b4, listO v4 0), (b3, listO v3 0), (b2, listO v2 0), (b1, listO v1 0), (b0, listO v0 0)] b0 [.ref b0, .ref b1, .ref b2, .ref b3, .ref b4, .ref b5, .ref b6, .ref b7, .ref b8, .ref b9, .ref b10] := by
  intro j hj
  have l0 : @LE.le Nat _ b0 b0 := Nat.le_refl _
  have l1 : @LE.le Nat _ b0 b1 := Nat.le_trans l0 (Nat.le_of_lt c0)
  have l2 : @LE.le Nat _ b0 b2 := Nat.le_trans l1 (Nat.le_of_lt c1)
  have l3 : @LE.le Nat _ b0 b3 := Nat.le_trans l2 (Nat.le_of_lt c2)
  have l4 : @LE.le Nat _ b0 b4 := Nat.le_trans l3 (Nat.le_of_lt c3)
  have l5 : @LE.le Nat _ b0 b5 := Nat.le_trans l4 (Nat.le_of_lt c4)
  have l6 : @LE.le Nat _ b0 b6 := Nat.le_trans l5 (Nat.le_of_lt c5)
  have l7 : @LE.le Nat _ b0 b7 := Nat.le_trans l6 (Nat.le_of_lt c6)
  have l8 : @LE.le Nat _ b0 b8 := Nat.le_trans l7 (Nat.le_of_lt c7)
  have l9 : @LE.le Nat _ b0 b9 := Nat.le_trans l8 (Nat.le_of_lt c8)
  have l10 : @LE.le Nat _ b0 b10 := Nat.le_trans l9 (Nat.le_of_lt c9)
  match j, hj with
  | 0, _ => exact ⟨b0, v0, _, rfl, .tail _ (.tail _ (.tail _ (.tail _ (.tail _ (.tail _ (.tail _ (.tail _ (.tail _ (.tail _ (.head _)))))))))), s0, lvl0, l0⟩
  | 1, _ => exact ⟨b1, v1, _, rfl, .tail _ (.tail _ (.tail _ (.tail _ (.tail _ (.tail _ (.tail _ (.tail _ (.tail _ (.head _))))))))), s1, lvl1, l1⟩
  | 2, _ => exact ⟨b2, v2, _, rfl, .tail _ (.tail _ (.tail _ (.tail _ (.tail _ (.tail _ (.tail _ (.tail _ (.head _)))))))), s2, lvl2, l2⟩
  | 3, _ => exact ⟨b3, v3, _, rfl, .tail _ (.tail _ (.tail _ (.tail _ (.tail _ (.tail _ (.tail _ (.head _))))))), s3, lvl3, l3⟩
  | 4, _ => exact ⟨b4, v4, _, rfl, .tail _ (.tail _ (.tail _ (.tail _ (.tail _ (.tail _ (.head _)))))), s4, lvl4, l4⟩
  | 5, _ => exact ⟨b5, v5, _, rfl, .tail _ (.tail _ (.tail _ (.tail _ (.tail _ (.head _))))), s5, lvl5, l5⟩
  | 6, _ => exact ⟨b6, v6, _, rfl, .tail _ (.tail _ (.tail _ (.tail _ (.head _)))), s6, lvl6, l6⟩
  | 7, _ => exact ⟨b7, v7, _, rfl, .tail _ (.tail _ (.tail _ (.head _))), s7, lvl7, l7⟩
  | 8, _ => exact ⟨b8, v8, _, rfl, .tail _ (.tail _ (.head _)), s8, lvl8, l8⟩
  | 9, _ => exact ⟨b9, v9, _, rfl, .tail _ (.head _), s9, lvl9, l9⟩
  | 10, _ => exact ⟨b10, v10, _, rfl, .head _, s10, lvl10, l10⟩
theorem order_item {prog : Program} {w : World} {A : Around} {E : Value → Shared → Prop} {s : Shared} {value slice : PySem.Expr} {b b0 : Addr} {refs : List Value} {own all : List (Addr × Obj)} {h₀ : Heap} {L : Addr} {k : Int} {u : Tok} {Q : Value → Shared → Prop}
    (N : News h₀ L s.heap all) (hb : (b, listO refs 0) ∈ all) (O : OrderOk own b0 refs) (sub : ∀ p ∈ own, p ∈ all) (h0 : 0 ≤ k) (h1 : k < 11)
    (h : ∀ bk vk ls, (bk, listO vk 0) ∈ all → StrsAre vk ls → LvlIs ls k → @LE.le Nat _ b0 bk → Q (.ref bk) s)
    (hs : subscripted slice false (.ref b) (.int k u) = operate [.ref b, .int k u] (getItem (.ref b) (.int k u)) := by with_unfolding_all rfl) : wpAny (model prog w) A (subscriptTail value slice (.ref b) (.int k u)) Q E s := by
  obtain ⟨bk, vk, ls, e, m, S, l, o⟩ := O k.toNat (by omega)
  rw [Int.toNat_of_nonneg h0] at l
  exact item_listR (News.isList N hb) h0 (by omega) (by simpa using e) (h bk vk ls (sub _ m) S l o) hs
/-- a text out of a list of texts -/
theorem text_item {prog : Program} {w : World} {A : Around} {E : Value → Shared → Prop} {s : Shared} {value slice : PySem.Expr} {l : Addr} {vs : List Value} {ws : List Str} {i : Int} {u : Tok} {Q : Value → Shared → Prop} (hl : s.heap.IsList l vs.toArray) (hS : StrsAre vs ws)
    (h0 : 0 ≤ i) (h1 : i < (ws.length : Int)) (h4 : ws.length ≤ 20) (h : ∀ x t', x ∈ ws → Q (.str x t') s)
    (hs : subscripted slice false (.ref l) (.int i u) = operate [.ref l, .int i u] (getItem (.ref l) (.int i u)) := by with_unfolding_all rfl) : wpAny (model prog w) A (subscriptTail value slice (.ref l) (.int i u)) Q E s := by
  refine KTb.item_list hl hS h0 h1 (by omega) (fun t' hlt => h _ t' ?_) hs
  rw [List.getD_eq_getElem?_getD, List.getElem?_eq_getElem hlt]; exact List.getElem_mem hlt
/-- an int out of a list of ints, all below 11 -/
theorem int_item {prog : Program} {w : World} {A : Around} {E : Value → Shared → Prop} {s : Shared} {value slice : PySem.Expr} {l : Addr} {vs : List Value} {ns : List Int} {i : Int} {u : Tok} {Q : Value → Shared → Prop} (hl : s.heap.IsList l vs.toArray) (hI : IntsAre vs ns)
    (h0 : 0 ≤ i) (h1 : i < (ns.length : Int)) (h4 : ns.length ≤ 20) (hb : (ns.all fun x => decide (0 ≤ x) && decide (x < 11)) = true) (h : ∀ x t', 0 ≤ x → x < 11 → Q (.int x t') s)
    (hs : subscripted slice false (.ref l) (.int i u) = operate [.ref l, .int i u] (getItem (.ref l) (.int i u)) := by with_unfolding_all rfl) : wpAny (model prog w) A (subscriptTail value slice (.ref l) (.int i u)) Q E s := by
  refine item_list_intsR hl hI h0 h1 (by omega) (fun t' => ?_) hs
  have hlt : i.toNat < ns.length := by omega
  have hm : ns.getD i.toNat 0 ∈ ns := by rw [List.getD_eq_getElem?_getD, List.getElem?_eq_getElem hlt]; exact List.getElem_mem hlt
  have := List.all_eq_true.mp hb _ hm
  rw [Bool.and_eq_true, decide_eq_true_eq, decide_eq_true_eq] at this
  exact h _ t' this.1 this.2

set_option maxHeartbeats 2000000 in
theorem does_order (w : World) (mean : ExcName → Option Value) (mg mb : Str → Option Value) (news : List (Addr × Obj)) : Does w mean mg mb 126 1 8 news [] (fun v news' => ∃ (b b0 b1 b2 b3 b4 b5 b6 b7 b8 b9 b10 : Addr) (v0 v1 v2 v3 v4 v5 v6 v7 v8 v9 v10 : List Value), v = .ref b ∧ news' = (b, listO [.ref b0, .ref b1, .ref b2, .ref b3, .ref b4, .ref b5, .ref b6, .ref b7, .ref b8, .ref b9, .ref b10] 0) :: (b10, listO v10 0) :: (b9, listO v9 0) :: (b8, listO v8 0) :: (b7, listO v7 0) :: (b6, listO v6 0) :: (b5, listO v5 0) :: (b4, listO v4 0) :: (b3, listO v3 0) :: (b2, listO v2 0) :: (b1, listO v1 0) :: (b0, listO v0 0) :: news ∧ OrderOk [(b10, listO v10 0), (b9, listO v9 0), (b8, listO v8 0), (b7, listO v7 0), (b6, listO v6 0), (b5, listO v5 0), (b4, listO v4 0), (b3, listO v3 0), (b2, listO v2 0), (b1, listO v1 0), (b0, listO v0 0)] b0 [.ref b0, .ref b1, .ref b2, .ref b3, .ref b4, .ref b5, .ref b6, .ref b7, .ref b8, .ref b9, .ref b10] ∧ (∀ p ∈ news, p.1 < b0) ∧ @LT.lt Nat _ b0 b1 ∧ @LT.lt Nat _ b0 b2 ∧ @LT.lt Nat _ b0 b3 ∧ @LT.lt Nat _ b0 b4 ∧ @LT.lt Nat _ b0 b5 ∧ @LT.lt Nat _ b0 b6 ∧ @LT.lt Nat _ b0 b7 ∧ @LT.lt Nat _ b0 b8 ∧ @LT.lt Nat _ b0 b9 ∧ @LT.lt Nat _ b0 b10 ∧ @LT.lt Nat _ b0 b) := by
  k_with_none
  k_with "spliced" => (k_here; (with_reducible show wpAny _ _ (spliced (backTo _ (starEach (Expr.Constant _ _ _ :: _) _))) _ _ _); k_dflt (refine' spliced_strs ?_ ?_); rotate_left; (focus ((repeat constructor); done)); intro vs8 tk8 sv8)
  w_top off
  unfold Does
  k_fill
  intro dp un gd cn cs a ccd cl outer A₀ base h₀ L m s Q E B F X N T hk hroom hunits hret
  refine wpAny_call ?_
  k_dflt ktr_enter
  k_steps
  exact hret _ _ _ _ (by k_asm) (by k_asm) ⟨_, _, _, _, _, _, _, _, _, _, _, _, _, _, _, _, _, _, _, _, _, _, _, rfl, rfl, order_ok (by assumption) (by assumption) (by assumption) (by assumption) (by assumption) (by assumption) (by assumption) (by assumption) (by assumption) (by assumption) (by assumption) (by omega) (by omega) (by omega) (by omega) (by omega) (by omega) (by omega) (by omega) (by omega) (by omega), by assumption, by omega, by omega, by omega, by omega, by omega, by omega, by omega, by omega, by omega, by omega, by omega⟩


/-- the places of an operator in the law's table, as the comprehension gathers them -/
noncomputable def bondOf {op : Str} (_ : op ∈ binops) (l : List Int) (k : Int) : List Int := if prec op = k + 1 then l ++ [k] else l
theorem bond_grows {op : Str} (h : op ∈ binops) : KPfGrows (bondOf h) := by
  intro l k
  unfold bondOf
  split
  · rw [List.length_append]; exact Nat.le_refl _
  · exact Nat.le_succ _
theorem bond_yes {op : Str} (hx : op ∈ binops) {ls : List Str} {k : Int} {l : List Int} (hl : (ls.all fun s => decide (prec s = k + 1)) = true) (h : (ls.any fun x => x == op) = true) : bondOf hx l k = l ++ [k] := by
  obtain ⟨x, h1, h2⟩ := List.any_eq_true.mp h
  obtain rfl : x = op := beq_iff_eq.mp h2
  exact if_pos (of_decide_eq_true (List.all_eq_true.mp hl x h1))
theorem bond_no {op : Str} (hx : op ∈ binops) {ls : List Str} {k : Int} {l : List Int} (hl : (binops.all fun s => (ls.any fun x => x == s) || decide (prec s ≠ k + 1)) = true) (h : (ls.any fun x => x == op) = false) : bondOf hx l k = l := by
  have := List.all_eq_true.mp hl op hx
  rw [h] at this
  exact if_neg (of_decide_eq_true (by simpa using this))
structure Kin (k : Int) : Prop where
  lo : 0 ≤ k
  hi : k < 0 + ((11 - 0 : Int).toNat : Int)
theorem Kin.hi' {k : Int} (h : Kin k) : k < 11 := h.hi
theorem turn_yes {h₀ h' : Heap} {L I C D : Addr} {m : Str → Option Value} {s₁ : Shared} {oI oC oD : Obj} {tk : Nat} {all news : List (Addr × Obj)} {op : Str} {k : Int} {t : Tok} {l : List Int} {ls : List Str} (hx : op ∈ binops)
    (h : (ls.any fun x => x == op) = true) (F : Fr h₀ L h' m) (N : News h₀ L h' all) (sub : ∀ p ∈ (I, oI) :: (C, oC) :: (D, oD) :: news, p ∈ all) (off : LCg.Off3 I C D news) (hl : (ls.all fun s => decide (prec s = k + 1)) = true) :
    LCg.CompEnd h₀ L m s₁ I oI C oC D oD (fun _ => True) (fun y news' => KCiEl news l (bondOf hx l k) y news') (.int k t) { s₁ with heap := h', toks := tk } :=
  LCg.CompEnd.intro F N news sub off trivial ⟨rfl, k, t, rfl, bond_yes hx hl h⟩
theorem turn_no {h₀ h' : Heap} {L I C D : Addr} {m : Str → Option Value} {s₁ : Shared} {oI oC oD : Obj} {tk : Nat} {all news : List (Addr × Obj)} {op : Str} {k : Int} {l : List Int} {v : Value} {ls : List Str} (hx : op ∈ binops)
    (h : (ls.any fun x => x == op) = false) (F : Fr h₀ L h' m) (N : News h₀ L h' all) (sub : ∀ p ∈ (I, oI) :: (C, oC) :: (D, oD) :: news, p ∈ all) (off : LCg.Off3 I C D news) (hl : (binops.all fun s => (ls.any fun x => x == s) || decide (prec s ≠ k + 1)) = true) :
    LCg.CompEnd h₀ L m s₁ I oI C oC D oD (fun _ => True) (fun _ news' => KCiNo news l (bondOf hx l k) news') v { s₁ with heap := h', toks := tk } :=
  LCg.CompEnd.intro F N news sub off trivial ⟨rfl, bond_no hx hl h⟩
theorem bond_all {op : Str} (hx : op ∈ binops) : (rangeKs 0 (11 - 0 : Int).toNat).foldl (bondOf hx) [] = [prec op - 1] := by
  have : ∀ op ∈ binops, (rangeKs 0 (11 - 0 : Int).toNat).foldl (fun l k => if prec op = k + 1 then l ++ [k] else l) [] = [prec op - 1] := by decide +kernel
  exact this op hx

theorem ints_one {ys : List Value} {k : Int} (h : IntsAre ys [k]) : ∃ t, ys = [.int k t] := by
  cases h with | cons _ t h' => cases h'; exact ⟨t, rfl⟩
theorem bond_items {op : Str} (hx : op ∈ binops) {ys : List Value} (h : IntsAre ys ((rangeKs 0 (11 - 0 : Int).toNat).foldl (bondOf hx) [])) : ∃ t, ys = [.int (prec op - 1) t] := ints_one (bond_all hx ▸ h)

set_option maxHeartbeats 0 in
theorem bond_bin (w : World) (mean : ExcName → Option Value) (mg mb : Str → Option Value) (news : List (Addr × Obj)) (v : Value) (op : Str) (l r : T) (hx : op ∈ binops) (ht : TIn news v (.bin op l r)) :
    Does w mean mg mb 138 4 40 news [v] (Gives news fun r => ∃ t', r = .int (prec op - 1) t') := by
  k_with_none
  k_with "call ref" => (k_here; (with_reducible show wpAny _ _ (call (Value.ref 126) _) _ _ _); k_dflt (refine does_use (f := 126) (by k_asm) (by k_asm) (by k_asm) (by k_asm) (by k_asm) (by exact does_order _ _ _ _ _) (by first | exact rfl | assumption) (by ((try simp only [depth_under_make, depth_under_kw, depth_in1, depth_deeper, depth_caller, recursionLimit] at *); (try dsimp only [ktrTop] at *); omega)) (by ((try simp only [units_in1, units_deeper, Around.mark_units, units_caller, cLine] at *); (try dsimp only [ktrTop] at *); omega)) ?_; (intro r9 h9 tk9 n9 F9 N9 hp9; obtain ⟨b, b0, b1, b2, b3, b4, b5, b6, b7, b8, b9, b10, v0, v1, v2, v3, v4, v5, v6, v7, v8, v9, v10, e9, f9, O9, l9, c9⟩ := hp9; subst e9; subst f9; (try k_lt l9)); (try dsimp only); (try k_fold)); skip)
  k_with "CompSrcT" => (k_here; (rename (_ ∈ binops) => hop9); k_dflt ((refine LCt.CompSrcT.range (by rfl) (by k_asm) (by k_asm) (by assumption) (by decide) (by first | exact rangeSize_nat _ _ | rfl) (by first | exact Nat.le_of_ble_eq_true rfl | size_fits) ?_; intro g'); (refine' kci_range (bondOf hop9) (fun k' t' I' oI' C' oC' D' m' ys' l' h' tk' E' hlo' hhi' hI' hC' hx' F' N' off' ne' hMark' => ?_) ?_ (bond_grows hop9)); (all_goals (try ((simp only [LCg.Off3, and_true] at off'); (have hk11 := Kin.mk hlo' hhi'); clear hlo' hhi'))); kcf_last))
  k_with "subscriptTail" => ((rename Kin _ => hk11); (rename OrderOk _ _ _ => ho11); k_dflt (refine order_item (by k_asm) (by k_mem) ho11 (by (repeat (first | (with_reducible exact sub_nil) | (with_reducible refine sub_both ?_) | (with_reducible refine sub_cons ?_))); done) hk11.lo hk11.hi' ?_); intro bk9 vk9 ls9 mk9 sk9 lk9 ok9)
  k_with "compareOp In str ref" => (k_here; k_dflt (refine in_list_strs (News.isList (by k_asm) (by assumption)) (by assumption) ?_))
  k_with "CompEnd" => (first | (exact turn_yes _ (by assumption) (by assumption) (by assumption) (by first | ((repeat (first | (with_reducible exact sub_refl) | (with_reducible refine sub_cons ?_))); done) | (intro p9 hp9; simp only [List.mem_cons, List.mem_append] at hp9 ⊢; simp only [hp9, or_true, true_or])) (by assumption) (LvlIs.yes (by assumption))) | (exact turn_no _ (by assumption) (by assumption) (by assumption) (by first | ((repeat (first | (with_reducible exact sub_refl) | (with_reducible refine sub_cons ?_))); done) | (intro p9 hp9; simp only [List.mem_cons, List.mem_append] at hp9 ⊢; simp only [hp9, or_true, true_or])) (by assumption) (LvlIs.no (by assumption))))
  cases ht with | bin hm h1 h2 =>
  w_top off
  unfold Does
  k_fill
  intro dp un gd cn cs a ccd cl outer A₀ base h₀ L m s Q E B F X N T hk hroom hunits hret
  refine wpAny_call ?_
  k_dflt (refine' code_defC ?k1 ?k2 ?k3 ?k4 ?k5 ?kA ?kF ?kK ?k6 ?k7 ?k8 ?k9 ?kB ?kD ?_ ?c2 ?c3 ?c4; (case kA => exact rfl); (case kF => exact rfl); (case kK => assumption); (case k1 => k_asm); (case k2 => k_asm); (case k3 => k_asm); (case k4 => k_asm); (case k5 => k_asm); (case k6 => k_is); (case k7 => k_is); (case k8 => ktr_room); (case k9 => exact BindsTo.of_eq rfl); (case kB => exact rfl); (case kD => decide +kernel); (case c2 => exact rfl); (case c3 => exact rfl); (case c4 => exact rfl); k_whole; intro g' L' h' tk' cells' FG' F' N' Y' B' X' T' l1; (try k_lt l1); k_cells Y'; (try simp only [List.cons_append, List.nil_append] at N'); (try dsimp only); (try k_lift B'); (try k_fold))
  k_steps
  obtain ⟨t9, e9⟩ := bond_items _ (by assumption)
  subst e9
  k_steps
  exact does_ret hret (by k_asm) (by k_asm) (by first | ((repeat (first | (with_reducible exact sub_refl) | (with_reducible refine sub_cons ?_))); done) | (intro p9 hp9; simp only [List.mem_cons, List.mem_append] at hp9 ⊢; simp only [hp9, or_true, true_or])) ⟨_, rfl⟩

noncomputable def bondT : T → Int
  | .id _ => 30
  | .un .. => 20
  | .bin op .. => prec op - 1
  | .cond .. => -1
set_option maxHeartbeats 0 in
theorem does_bond (w : World) (mean : ExcName → Option Value) (mg mb : Str → Option Value) (news : List (Addr × Obj)) (v : Value) (t : T) (n : Nat) (ht : TIn news v t) (hg : Good n t) :
    Does w mean mg mb 138 4 40 news [v] (Gives news fun r => ∃ t', r = .int (bondT t) t') := by
  k_with_none
  k_with "call ref" => (k_here; (with_reducible show wpAny _ _ (call (Value.ref 126) _) _ _ _); k_dflt (refine does_use (f := 126) (by k_asm) (by k_asm) (by k_asm) (by k_asm) (by k_asm) (by exact does_order _ _ _ _ _) (by first | exact rfl | assumption) (by ((try simp only [depth_under_make, depth_under_kw, depth_in1, depth_deeper, depth_caller, recursionLimit] at *); (try dsimp only [ktrTop] at *); omega)) (by ((try simp only [units_in1, units_deeper, Around.mark_units, units_caller, cLine] at *); (try dsimp only [ktrTop] at *); omega)) ?_; (intro r9 h9 tk9 n9 F9 N9 hp9; obtain ⟨b, b0, b1, b2, b3, b4, b5, b6, b7, b8, b9, b10, v0, v1, v2, v3, v4, v5, v6, v7, v8, v9, v10, e9, f9, O9, l9, c9⟩ := hp9; subst e9; subst f9; (try k_lt l9)); (try dsimp only); (try k_fold)); skip)
  k_with "CompSrcT" => (k_here; (rename (_ ∈ binops) => hop9); k_dflt ((refine LCt.CompSrcT.range (by rfl) (by k_asm) (by k_asm) (by assumption) (by decide) (by first | exact rangeSize_nat _ _ | rfl) (by first | exact Nat.le_of_ble_eq_true rfl | size_fits) ?_; intro g'); (refine' kci_range (bondOf hop9) (fun k' t' I' oI' C' oC' D' m' ys' l' h' tk' E' hlo' hhi' hI' hC' hx' F' N' off' ne' hMark' => ?_) ?_ (bond_grows hop9)); (all_goals (try ((simp only [LCg.Off3, and_true] at off'); (have hk11 := Kin.mk hlo' hhi'); clear hlo' hhi'))); kcf_last))
  k_with "subscriptTail" => ((rename Kin _ => hk11); (rename OrderOk _ _ _ => ho11); k_dflt (refine order_item (by k_asm) (by k_mem) ho11 (by (repeat (first | (with_reducible exact sub_nil) | (with_reducible refine sub_both ?_) | (with_reducible refine sub_cons ?_))); done) hk11.lo hk11.hi' ?_); intro bk9 vk9 ls9 mk9 sk9 lk9 ok9)
  k_with "compareOp In str ref" => (k_here; k_dflt (refine in_list_strs (News.isList (by k_asm) (by assumption)) (by assumption) ?_))
  k_with "CompEnd" => (first | (exact turn_yes _ (by assumption) (by assumption) (by assumption) (by first | ((repeat (first | (with_reducible exact sub_refl) | (with_reducible refine sub_cons ?_))); done) | (intro p9 hp9; simp only [List.mem_cons, List.mem_append] at hp9 ⊢; simp only [hp9, or_true, true_or])) (by assumption) (LvlIs.yes (by assumption))) | (exact turn_no _ (by assumption) (by assumption) (by assumption) (by first | ((repeat (first | (with_reducible exact sub_refl) | (with_reducible refine sub_cons ?_))); done) | (intro p9 hp9; simp only [List.mem_cons, List.mem_append] at hp9 ⊢; simp only [hp9, or_true, true_or])) (by assumption) (LvlIs.no (by assumption))))
  cases ht with
  | bin hm h1 h2 => exact bond_bin _ _ _ _ _ _ _ _ _ (by cases n with | zero => exact hg.elim | succ n => exact hg.1) (.bin hm h1 h2)
  | id hm =>
    w_top off
    unfold Does
    k_fill
    intro dp un gd cn cs a ccd cl outer A₀ base h₀ L m s Q E B F X N T hk hroom hunits hret
    refine wpAny_call ?_
    k_dflt (refine' code_defC ?k1 ?k2 ?k3 ?k4 ?k5 ?kA ?kF ?kK ?k6 ?k7 ?k8 ?k9 ?kB ?kD ?_ ?c2 ?c3 ?c4; (case kA => exact rfl); (case kF => exact rfl); (case kK => assumption); (case k1 => k_asm); (case k2 => k_asm); (case k3 => k_asm); (case k4 => k_asm); (case k5 => k_asm); (case k6 => k_is); (case k7 => k_is); (case k8 => ktr_room); (case k9 => exact BindsTo.of_eq rfl); (case kB => exact rfl); (case kD => decide +kernel); (case c2 => exact rfl); (case c3 => exact rfl); (case c4 => exact rfl); k_whole; intro g' L' h' tk' cells' FG' F' N' Y' B' X' T' l1; (try k_lt l1); k_cells Y'; (try simp only [List.cons_append, List.nil_append] at N'); (try dsimp only); (try k_lift B'); (try k_fold))
    k_steps
    exact does_ret hret (by k_asm) (by k_asm) (by first | ((repeat (first | (with_reducible exact sub_refl) | (with_reducible refine sub_cons ?_))); done) | (intro p9 hp9; simp only [List.mem_cons, List.mem_append] at hp9 ⊢; simp only [hp9, or_true, true_or])) ⟨_, rfl⟩
  | un hm h1 =>
    w_top off
    unfold Does
    k_fill
    intro dp un gd cn cs a ccd cl outer A₀ base h₀ L m s Q E B F X N T hk hroom hunits hret
    refine wpAny_call ?_
    k_dflt (refine' code_defC ?k1 ?k2 ?k3 ?k4 ?k5 ?kA ?kF ?kK ?k6 ?k7 ?k8 ?k9 ?kB ?kD ?_ ?c2 ?c3 ?c4; (case kA => exact rfl); (case kF => exact rfl); (case kK => assumption); (case k1 => k_asm); (case k2 => k_asm); (case k3 => k_asm); (case k4 => k_asm); (case k5 => k_asm); (case k6 => k_is); (case k7 => k_is); (case k8 => ktr_room); (case k9 => exact BindsTo.of_eq rfl); (case kB => exact rfl); (case kD => decide +kernel); (case c2 => exact rfl); (case c3 => exact rfl); (case c4 => exact rfl); k_whole; intro g' L' h' tk' cells' FG' F' N' Y' B' X' T' l1; (try k_lt l1); k_cells Y'; (try simp only [List.cons_append, List.nil_append] at N'); (try dsimp only); (try k_lift B'); (try k_fold))
    k_steps
    exact does_ret hret (by k_asm) (by k_asm) (by first | ((repeat (first | (with_reducible exact sub_refl) | (with_reducible refine sub_cons ?_))); done) | (intro p9 hp9; simp only [List.mem_cons, List.mem_append] at hp9 ⊢; simp only [hp9, or_true, true_or])) ⟨_, rfl⟩
  | cond hm h1 h2 h3 =>
    w_top off
    unfold Does
    k_fill
    intro dp un gd cn cs a ccd cl outer A₀ base h₀ L m s Q E B F X N T hk hroom hunits hret
    refine wpAny_call ?_
    k_dflt (refine' code_defC ?k1 ?k2 ?k3 ?k4 ?k5 ?kA ?kF ?kK ?k6 ?k7 ?k8 ?k9 ?kB ?kD ?_ ?c2 ?c3 ?c4; (case kA => exact rfl); (case kF => exact rfl); (case kK => assumption); (case k1 => k_asm); (case k2 => k_asm); (case k3 => k_asm); (case k4 => k_asm); (case k5 => k_asm); (case k6 => k_is); (case k7 => k_is); (case k8 => ktr_room); (case k9 => exact BindsTo.of_eq rfl); (case kB => exact rfl); (case kD => decide +kernel); (case c2 => exact rfl); (case c3 => exact rfl); (case c4 => exact rfl); k_whole; intro g' L' h' tk' cells' FG' F' N' Y' B' X' T' l1; (try k_lt l1); k_cells Y'; (try simp only [List.cons_append, List.nil_append] at N'); (try dsimp only); (try k_lift B'); (try k_fold))
    k_steps
    exact does_ret hret (by k_asm) (by k_asm) (by first | ((repeat (first | (with_reducible exact sub_refl) | (with_reducible refine sub_cons ?_))); done) | (intro p9 hp9; simp only [List.mem_cons, List.mem_append] at hp9 ⊢; simp only [hp9, or_true, true_or])) ⟨_, rfl⟩

noncomputable def kindT : T → Str
  | .id _ => (Str.ofString "id")
  | .un .. => (Str.ofString "un")
  | .bin .. => (Str.ofString "bin")
  | .cond .. => (Str.ofString "cond")
/-- the tree's first place -/
theorem TIn.first {news : List (Addr × Obj)} {v : Value} {t : T} (h : TIn news v t) : ∃ a tk vs n, v = .ref a ∧ (a, tupO (.str (kindT t) tk :: vs) n) ∈ news := by
  cases h with
  | id hm => exact ⟨_, _, _, _, rfl, hm⟩
  | un hm _ => exact ⟨_, _, _, _, rfl, hm⟩
  | bin hm _ _ => exact ⟨_, _, _, _, rfl, hm⟩
  | cond hm _ _ _ => exact ⟨_, _, _, _, rfl, hm⟩

theorem seq0 {α : Type} (x : α) (l : List α) : seqIndex? 0 (x :: l).length = some 0 := by
  unfold seqIndex?
  simp only [Int.lt_irrefl, if_false, List.length_cons]
  rw [if_pos]
  · rfl
  · simp only [Bool.and_eq_true, decide_eq_true_eq]; exact ⟨Int.le_refl _, by omega⟩
theorem first_at {prog : Program} {w : World} {A : Around} {E : Value → Shared → Prop} {s : Shared} {value slice : PySem.Expr} {a : Addr} {x : Value} {vs : List Value} {u : Tok} {Q : Value → Shared → Prop} (ht : IsTup s.heap a (x :: vs).toArray) (h : Q x s)
    (hs : subscripted slice false (.ref a) (.int 0 u) = operate [.ref a, .int 0 u] (getItem (.ref a) (.int 0 u)) := by with_unfolding_all rfl) : wpAny (model prog w) A (subscriptTail value slice (.ref a) (.int 0 u)) Q E s :=
  item_tupleT (k := 0) (j := 0) (x := x) (l := x :: vs) ht (by decide) (by decide) (seq0 x vs) rfl h hs



theorem inner_in {x e : Str} {t' : Tok} (h : x = e) (hl : x.length ≤ 2000) : TextIs (wrap (!false) e) 2002 (.str ((Str.ofString "(") ++ x ++ (Str.ofString ")")) t') :=
  ⟨_, _, rfl, by subst h; rfl, by have h4 := ofString_len1; simp only [PySem.Str.length_append]; omega⟩
theorem inner_out {x e : Str} {t' : Tok} (h : x = e) (hl : x.length ≤ 2000) : TextIs (wrap (!true) e) 2002 (.str x t') :=
  ⟨_, _, rfl, by subst h; rfl, by omega⟩

set_option maxHeartbeats 0 in
theorem does_inner (w : World) (mean : ExcName → Option Value) (mg mb : Str → Option Value) (news : List (Addr × Obj)) (v : Value) (e : Str) (b : Bool) (n : Nat)
    (hE : Does w mean mg mb 152 (2 * n + 6) (16 * n + 60) news [v] (Gives news (TextIs e 2000))) :
    Does w mean mg mb 145 (2 * n + 7) (16 * n + 68) news [v, .bool b] (Gives news (TextIs (wrap (!b) e) 2002)) := by
  k_with_none
  k_with "subscriptTail" => (k_here; (with_reducible show wpAny _ _ (subscriptTail _ _ (Value.ref _) (Value.int 0 _)) _ _ _); k_dflt (refine first_at (News.isTup (by k_asm) (by k_mem)) ?_; k_whole))
  k_with "call ref" => (k_here; (with_reducible show wpAny _ _ (call (Value.ref 152) _) _ _ _); k_dflt (refine does_use (f := 152) (by k_asm) (by k_asm) (by k_asm) (by k_asm) (by k_asm) (by assumption) (by first | exact rfl | assumption) (by ((try simp only [depth_under_make, depth_under_kw, depth_in1, depth_deeper, depth_caller, recursionLimit] at *); (try dsimp only [ktrTop] at *); omega)) (by ((try simp only [units_in1, units_deeper, Around.mark_units, units_caller, cLine] at *); (try dsimp only [ktrTop] at *); omega)) ?_; (intro r9 h9 tk9 n9 F9 N9 hp9; obtain ⟨e9, x9, t9, f9, v9, l9⟩ := hp9; subst e9; subst f9); (try dsimp only); (try k_fold)); skip)
  cases b
  all_goals (
    w_top off
    unfold Does
    k_fill
    intro dp un gd cn cs a ccd cl outer A₀ base h₀ L m s Q E B F X N T hk hroom hunits hret
    refine wpAny_call ?_
    k_dflt ktr_enter
    k_steps
    exact does_ret hret (by k_asm) (by k_asm) (fun p hp => hp) (by first | exact inner_in (by assumption) (by assumption) | exact inner_out (by assumption) (by assumption)))




theorem prec_bound {op : Str} (h : op ∈ binops) : 1 ≤ prec op ∧ prec op ≤ 11 := by
  have : ∀ op ∈ binops, 1 ≤ prec op ∧ prec op ≤ 11 := by decide +kernel
  exact this op h
theorem Good.op {n : Nat} {op : Str} {l r : T} (h : Good n (.bin op l r)) : op ∈ binops := by
  cases n with
  | zero => exact h.elim
  | succ n => exact h.1
theorem kinds : ((Str.ofString "id") == (Str.ofString "id")) = true ∧ ((Str.ofString "un") == (Str.ofString "id")) = false ∧ ((Str.ofString "bin") == (Str.ofString "id")) = false ∧ ((Str.ofString "cond") == (Str.ofString "id")) = false ∧
    ((Str.ofString "id") != (Str.ofString "cond")) = true ∧ ((Str.ofString "un") != (Str.ofString "cond")) = true ∧ ((Str.ofString "bin") != (Str.ofString "cond")) = true ∧ ((Str.ofString "cond") != (Str.ofString "cond")) = false := by decide +kernel
theorem same_un {n : Nat} {t : T} (hg : Good n t) : (!(kindT t == (Str.ofString "id"))) = decide (rankT t < 13) := by
  obtain ⟨k1, k2, k3, k4, _⟩ := kinds
  cases t with
  | id _ => simp only [kindT, rankT, k1]; exact (decide_eq_false (by omega)).symm
  | un _ _ => simp only [kindT, rankT, k2]; exact (decide_eq_true (by omega)).symm
  | bin op l r =>
    have := prec_bound hg.op
    simp only [kindT, rankT, k3]
    exact (decide_eq_true (by omega)).symm
  | cond _ _ _ => simp only [kindT, rankT, k4]; exact (decide_eq_true (by omega)).symm
theorem same_cond {n : Nat} {t : T} (hg : Good n t) : (!(kindT t != (Str.ofString "cond"))) = decide (rankT t < 1) := by
  obtain ⟨_, _, _, _, k1, k2, k3, k4⟩ := kinds
  cases t with
  | id _ => simp only [kindT, rankT, k1]; exact (decide_eq_false (by omega)).symm
  | un _ _ => simp only [kindT, rankT, k2]; exact (decide_eq_false (by omega)).symm
  | bin op l r =>
    have := prec_bound hg.op
    simp only [kindT, rankT, k3]
    exact (decide_eq_false (by omega)).symm
  | cond _ _ _ => simp only [kindT, rankT, k4]; exact (decide_eq_true (by omega)).symm
theorem not_dec {p q : Prop} [Decidable p] [Decidable q] (h : ¬ p ↔ q) : (!decide p) = decide q := by
  rw [← decide_not]; exact decide_eq_decide.mpr h
theorem same_left {n : Nat} {op : Str} {l r t : T} (hx : op ∈ binops) (hg : Good n t) : (!decide (bondT (.bin op l r) ≤ bondT t)) = decide (rankT t < prec op) := by
  have h0 := prec_bound hx
  refine not_dec ?_
  cases t with
  | id _ => simp only [bondT, rankT]; omega
  | un _ _ => simp only [bondT, rankT]; omega
  | bin op l r => simp only [bondT, rankT]; omega
  | cond _ _ _ => simp only [bondT, rankT]; omega
theorem same_right {n : Nat} {op : Str} {l r t : T} (hx : op ∈ binops) (hg : Good n t) : (!decide (bondT (.bin op l r) < bondT t)) = decide (rankT t < prec op + 1) := by
  have h0 := prec_bound hx
  refine not_dec ?_
  cases t with
  | id _ => simp only [bondT, rankT]; omega
  | un _ _ => simp only [bondT, rankT]; omega
  | bin op l r => simp only [bondT, rankT]; omega
  | cond _ _ _ => simp only [bondT, rankT]; omega
theorem sp_un {op x : Str} {t : T} {t' : Tok} {n : Nat} (hg : Good n t) (h : x = wrap (!(kindT t == (Str.ofString "id"))) (etext t)) (hs : (etext (.un op t)).length ≤ 2000) : TextIs (etext (.un op t)) 2000 (.str (op ++ x) t') := by
  rw [same_un hg] at h; exact end_un h hs
theorem sp_bin {op x y : Str} {l r : T} {t' : Tok} {n : Nat} (hx : op ∈ binops) (hg : Good n l) (hg' : Good n r) (h : x = wrap (!decide (bondT (.bin op l r) ≤ bondT l)) (etext l)) (h' : y = wrap (!decide (bondT (.bin op l r) < bondT r)) (etext r)) (hs : (etext (.bin op l r)).length ≤ 2000) :
    TextIs (etext (.bin op l r)) 2000 (.str (x ++ (Str.ofString " ") ++ op ++ (Str.ofString " ") ++ y) t') := by
  rw [same_left hx hg] at h; rw [same_right hx hg'] at h'; subst h h'; exact ⟨_, _, rfl, rfl, hs⟩
theorem sp_cond {x y z : Str} {c l r : T} {t' : Tok} {n : Nat} (hg : Good n c) (hg' : Good n l) (h : x = wrap (!(kindT c != (Str.ofString "cond"))) (etext c)) (h' : y = wrap (!(kindT l != (Str.ofString "cond"))) (etext l)) (h'' : z = etext r) (hs : (etext (.cond c l r)).length ≤ 2000) :
    TextIs (etext (.cond c l r)) 2000 (.str (x ++ (Str.ofString " ? ") ++ y ++ (Str.ofString " : ") ++ z) t') := by
  rw [same_cond hg] at h; rw [same_cond hg'] at h'; subst h h' h''; exact ⟨_, _, rfl, rfl, hs⟩

set_option maxHeartbeats 0 in
theorem spelled_id (w : World) (mean : ExcName → Option Value) (mg mb : Str → Option Value) (news : List (Addr × Obj)) (v : Value) (x : Str) (n : Nat) (ht : TIn news v (.id x)) (hx : x ∈ names) :
    Does w mean mg mb 152 (2 * n + 6) (16 * n + 60) news [v] (Gives news (TextIs (etext (.id x)) 2000)) := by
  k_with_none
  k_with "subscriptTail" => (k_here; (with_reducible show wpAny _ _ (subscriptTail _ _ (Value.ref _) (Value.int 0 _)) _ _ _); k_dflt (refine first_at (News.isTup (by k_asm) (by k_mem)) ?_; k_whole))
  k_with "call ref" => (k_here; (with_reducible show wpAny _ _ (call (Value.ref 152) _) _ _ _); k_dflt (refine does_use (f := 152) (by k_asm) (by k_asm) (by k_asm) (by k_asm) (by k_asm) (by assumption) (by first | exact rfl | assumption) (by ((try simp only [depth_under_make, depth_under_kw, depth_in1, depth_deeper, depth_caller, recursionLimit] at *); (try dsimp only [ktrTop] at *); omega)) (by ((try simp only [units_in1, units_deeper, Around.mark_units, units_caller, cLine] at *); (try dsimp only [ktrTop] at *); omega)) ?_; (intro r9 h9 tk9 n9 F9 N9 hp9; obtain ⟨e9, x9, t9, f9, v9, l9⟩ := hp9; subst e9; subst f9); (try dsimp only); (try k_fold)); skip)
  k_with "call ref" => (k_here; (with_reducible show wpAny _ _ (call (Value.ref 145) _) _ _ _); k_dflt (refine does_use (f := 145) (by k_asm) (by k_asm) (by k_asm) (by k_asm) (by k_asm) (by exact does_inner _ _ _ _ _ _ _ _ _ (by assumption)) (by first | exact rfl | assumption) (by ((try simp only [depth_under_make, depth_under_kw, depth_in1, depth_deeper, depth_caller, recursionLimit] at *); (try dsimp only [ktrTop] at *); omega)) (by ((try simp only [units_in1, units_deeper, Around.mark_units, units_caller, cLine] at *); (try dsimp only [ktrTop] at *); omega)) ?_; (intro r9 h9 tk9 n9 F9 N9 hp9; obtain ⟨e9, x9, t9, f9, v9, l9⟩ := hp9; subst e9; subst f9); (try dsimp only); (try k_fold)); skip)
  k_with "call ref" => (k_here; (with_reducible show wpAny _ _ (call (Value.ref 138) _) _ _ _); k_dflt (refine does_use (f := 138) (by k_asm) (by k_asm) (by k_asm) (by k_asm) (by k_asm) (by exact does_bond _ _ _ _ _ _ _ _ (by assumption) (by assumption)) (by first | exact rfl | assumption) (by ((try simp only [depth_under_make, depth_under_kw, depth_in1, depth_deeper, depth_caller, recursionLimit] at *); (try dsimp only [ktrTop] at *); omega)) (by ((try simp only [units_in1, units_deeper, Around.mark_units, units_caller, cLine] at *); (try dsimp only [ktrTop] at *); omega)) ?_; (intro r9 h9 tk9 n9 F9 N9 hp9; obtain ⟨e9, t9, f9⟩ := hp9; subst e9; subst f9); (try dsimp only); (try k_fold)); skip)
  have hl := name_length hx
  cases ht
  w_top off
  unfold Does
  k_fill
  intro dp un gd cn cs a ccd cl outer A₀ base h₀ L m s Q E B F X N T hk hroom hunits hret
  refine wpAny_call ?_
  k_dflt ktr_enter
  k_steps
  exact does_ret hret (by k_asm) (by k_asm) (fun p hp => hp) ⟨_, _, rfl, rfl, by omega⟩

set_option maxHeartbeats 0 in
theorem spelled_un (w : World) (mean : ExcName → Option Value) (mg mb : Str → Option Value) (news : List (Addr × Obj)) (v : Value) (op : Str) (t : T) (n : Nat) (hn : n ≤ 4) (ht : TIn news v (.un op t)) (hx : op ∈ unops) (hg : Good n t)
    (ih : ∀ v t, TIn news v t → Good n t → Does w mean mg mb 152 (2 * n + 6) (16 * n + 60) news [v] (Gives news (TextIs (etext t) 2000))) :
    Does w mean mg mb 152 (2 * (n + 1) + 6) (16 * (n + 1) + 60) news [v] (Gives news (TextIs (etext (.un op t)) 2000)) := by
  k_with_none
  k_with "subscriptTail" => (k_here; (with_reducible show wpAny _ _ (subscriptTail _ _ (Value.ref _) (Value.int 0 _)) _ _ _); k_dflt (refine first_at (News.isTup (by k_asm) (by k_mem)) ?_; k_whole))
  k_with "call ref" => (k_here; (with_reducible show wpAny _ _ (call (Value.ref 152) _) _ _ _); k_dflt (refine does_use (f := 152) (by k_asm) (by k_asm) (by k_asm) (by k_asm) (by k_asm) (by assumption) (by first | exact rfl | assumption) (by ((try simp only [depth_under_make, depth_under_kw, depth_in1, depth_deeper, depth_caller, recursionLimit] at *); (try dsimp only [ktrTop] at *); omega)) (by ((try simp only [units_in1, units_deeper, Around.mark_units, units_caller, cLine] at *); (try dsimp only [ktrTop] at *); omega)) ?_; (intro r9 h9 tk9 n9 F9 N9 hp9; obtain ⟨e9, x9, t9, f9, v9, l9⟩ := hp9; subst e9; subst f9); (try dsimp only); (try k_fold)); skip)
  k_with "call ref" => (k_here; (with_reducible show wpAny _ _ (call (Value.ref 145) _) _ _ _); k_dflt (refine does_use (f := 145) (by k_asm) (by k_asm) (by k_asm) (by k_asm) (by k_asm) (by exact does_inner _ _ _ _ _ _ _ _ _ (by assumption)) (by first | exact rfl | assumption) (by ((try simp only [depth_under_make, depth_under_kw, depth_in1, depth_deeper, depth_caller, recursionLimit] at *); (try dsimp only [ktrTop] at *); omega)) (by ((try simp only [units_in1, units_deeper, Around.mark_units, units_caller, cLine] at *); (try dsimp only [ktrTop] at *); omega)) ?_; (intro r9 h9 tk9 n9 F9 N9 hp9; obtain ⟨e9, x9, t9, f9, v9, l9⟩ := hp9; subst e9; subst f9); (try dsimp only); (try k_fold)); skip)
  k_with "call ref" => (k_here; (with_reducible show wpAny _ _ (call (Value.ref 138) _) _ _ _); k_dflt (refine does_use (f := 138) (by k_asm) (by k_asm) (by k_asm) (by k_asm) (by k_asm) (by exact does_bond _ _ _ _ _ _ _ _ (by assumption) (by assumption)) (by first | exact rfl | assumption) (by ((try simp only [depth_under_make, depth_under_kw, depth_in1, depth_deeper, depth_caller, recursionLimit] at *); (try dsimp only [ktrTop] at *); omega)) (by ((try simp only [units_in1, units_deeper, Around.mark_units, units_caller, cLine] at *); (try dsimp only [ktrTop] at *); omega)) ?_; (intro r9 h9 tk9 n9 F9 N9 hp9; obtain ⟨e9, t9, f9⟩ := hp9; subst e9; subst f9); (try dsimp only); (try k_fold)); skip)
  have hl := unop_length hx
  have hs := etext_short (n := n + 1) (t := .un op t) ⟨hx, hg⟩ (by omega)
  cases ht with | un hm h1 =>
  have i1 := ih _ _ h1 hg
  obtain ⟨a1, k1, v1, n1, e1, m1⟩ := h1.first
  subst e1
  w_top off
  unfold Does
  k_fill
  intro dp un gd cn cs a ccd cl outer A₀ base h₀ L m s Q E B F X N T hk hroom hunits hret
  refine wpAny_call ?_
  k_dflt ktr_enter
  k_steps
  exact does_ret hret (by k_asm) (by k_asm) (fun p hp => hp) (sp_un hg (by assumption) hs)

set_option maxHeartbeats 0 in
theorem spelled_bin (w : World) (mean : ExcName → Option Value) (mg mb : Str → Option Value) (news : List (Addr × Obj)) (v : Value) (op : Str) (l r : T) (n : Nat) (hn : n ≤ 4) (ht : TIn news v (.bin op l r)) (hx : op ∈ binops) (hg : Good n l) (hg' : Good n r)
    (ih : ∀ v t, TIn news v t → Good n t → Does w mean mg mb 152 (2 * n + 6) (16 * n + 60) news [v] (Gives news (TextIs (etext t) 2000))) :
    Does w mean mg mb 152 (2 * (n + 1) + 6) (16 * (n + 1) + 60) news [v] (Gives news (TextIs (etext (.bin op l r)) 2000)) := by
  k_with_none
  k_with "subscriptTail" => (k_here; (with_reducible show wpAny _ _ (subscriptTail _ _ (Value.ref _) (Value.int 0 _)) _ _ _); k_dflt (refine first_at (News.isTup (by k_asm) (by k_mem)) ?_; k_whole))
  k_with "call ref" => (k_here; (with_reducible show wpAny _ _ (call (Value.ref 152) _) _ _ _); k_dflt (refine does_use (f := 152) (by k_asm) (by k_asm) (by k_asm) (by k_asm) (by k_asm) (by assumption) (by first | exact rfl | assumption) (by ((try simp only [depth_under_make, depth_under_kw, depth_in1, depth_deeper, depth_caller, recursionLimit] at *); (try dsimp only [ktrTop] at *); omega)) (by ((try simp only [units_in1, units_deeper, Around.mark_units, units_caller, cLine] at *); (try dsimp only [ktrTop] at *); omega)) ?_; (intro r9 h9 tk9 n9 F9 N9 hp9; obtain ⟨e9, x9, t9, f9, v9, l9⟩ := hp9; subst e9; subst f9); (try dsimp only); (try k_fold)); skip)
  k_with "call ref" => (k_here; (with_reducible show wpAny _ _ (call (Value.ref 145) _) _ _ _); k_dflt (refine does_use (f := 145) (by k_asm) (by k_asm) (by k_asm) (by k_asm) (by k_asm) (by exact does_inner _ _ _ _ _ _ _ _ _ (by assumption)) (by first | exact rfl | assumption) (by ((try simp only [depth_under_make, depth_under_kw, depth_in1, depth_deeper, depth_caller, recursionLimit] at *); (try dsimp only [ktrTop] at *); omega)) (by ((try simp only [units_in1, units_deeper, Around.mark_units, units_caller, cLine] at *); (try dsimp only [ktrTop] at *); omega)) ?_; (intro r9 h9 tk9 n9 F9 N9 hp9; obtain ⟨e9, x9, t9, f9, v9, l9⟩ := hp9; subst e9; subst f9); (try dsimp only); (try k_fold)); skip)
  k_with "call ref" => (k_here; (with_reducible show wpAny _ _ (call (Value.ref 138) _) _ _ _); k_dflt (refine does_use (f := 138) (by k_asm) (by k_asm) (by k_asm) (by k_asm) (by k_asm) (by exact does_bond _ _ _ _ _ _ _ _ (by assumption) (by assumption)) (by first | exact rfl | assumption) (by ((try simp only [depth_under_make, depth_under_kw, depth_in1, depth_deeper, depth_caller, recursionLimit] at *); (try dsimp only [ktrTop] at *); omega)) (by ((try simp only [units_in1, units_deeper, Around.mark_units, units_caller, cLine] at *); (try dsimp only [ktrTop] at *); omega)) ?_; (intro r9 h9 tk9 n9 F9 N9 hp9; obtain ⟨e9, t9, f9⟩ := hp9; subst e9; subst f9); (try dsimp only); (try k_fold)); skip)
  have hl := binop_length hx
  have hg0 : Good (n + 1) (.bin op l r) := ⟨hx, hg, hg'⟩
  have hs := etext_short (n := n + 1) hg0 (by omega)
  have ht0 := ht
  cases ht with | bin hm h1 h2 =>
  have i1 := ih _ _ h1 hg
  have i2 := ih _ _ h2 hg'
  w_top off
  unfold Does
  k_fill
  intro dp un gd cn cs a ccd cl outer A₀ base h₀ L m s Q E B F X N T hk hroom hunits hret
  refine wpAny_call ?_
  k_dflt ktr_enter
  k_steps
  exact does_ret hret (by k_asm) (by k_asm) (fun p hp => hp) (sp_bin hx hg hg' (by assumption) (by assumption) hs)

set_option maxHeartbeats 0 in
theorem spelled_cond (w : World) (mean : ExcName → Option Value) (mg mb : Str → Option Value) (news : List (Addr × Obj)) (v : Value) (c l r : T) (n : Nat) (hn : n ≤ 4) (ht : TIn news v (.cond c l r)) (hg : Good n c) (hg' : Good n l) (hg'' : Good n r)
    (ih : ∀ v t, TIn news v t → Good n t → Does w mean mg mb 152 (2 * n + 6) (16 * n + 60) news [v] (Gives news (TextIs (etext t) 2000))) :
    Does w mean mg mb 152 (2 * (n + 1) + 6) (16 * (n + 1) + 60) news [v] (Gives news (TextIs (etext (.cond c l r)) 2000)) := by
  k_with_none
  k_with "subscriptTail" => (k_here; (with_reducible show wpAny _ _ (subscriptTail _ _ (Value.ref _) (Value.int 0 _)) _ _ _); k_dflt (refine first_at (News.isTup (by k_asm) (by k_mem)) ?_; k_whole))
  k_with "call ref" => (k_here; (with_reducible show wpAny _ _ (call (Value.ref 152) _) _ _ _); k_dflt (refine does_use (f := 152) (by k_asm) (by k_asm) (by k_asm) (by k_asm) (by k_asm) (by assumption) (by first | exact rfl | assumption) (by ((try simp only [depth_under_make, depth_under_kw, depth_in1, depth_deeper, depth_caller, recursionLimit] at *); (try dsimp only [ktrTop] at *); omega)) (by ((try simp only [units_in1, units_deeper, Around.mark_units, units_caller, cLine] at *); (try dsimp only [ktrTop] at *); omega)) ?_; (intro r9 h9 tk9 n9 F9 N9 hp9; obtain ⟨e9, x9, t9, f9, v9, l9⟩ := hp9; subst e9; subst f9); (try dsimp only); (try k_fold)); skip)
  k_with "call ref" => (k_here; (with_reducible show wpAny _ _ (call (Value.ref 145) _) _ _ _); k_dflt (refine does_use (f := 145) (by k_asm) (by k_asm) (by k_asm) (by k_asm) (by k_asm) (by exact does_inner _ _ _ _ _ _ _ _ _ (by assumption)) (by first | exact rfl | assumption) (by ((try simp only [depth_under_make, depth_under_kw, depth_in1, depth_deeper, depth_caller, recursionLimit] at *); (try dsimp only [ktrTop] at *); omega)) (by ((try simp only [units_in1, units_deeper, Around.mark_units, units_caller, cLine] at *); (try dsimp only [ktrTop] at *); omega)) ?_; (intro r9 h9 tk9 n9 F9 N9 hp9; obtain ⟨e9, x9, t9, f9, v9, l9⟩ := hp9; subst e9; subst f9); (try dsimp only); (try k_fold)); skip)
  k_with "call ref" => (k_here; (with_reducible show wpAny _ _ (call (Value.ref 138) _) _ _ _); k_dflt (refine does_use (f := 138) (by k_asm) (by k_asm) (by k_asm) (by k_asm) (by k_asm) (by exact does_bond _ _ _ _ _ _ _ _ (by assumption) (by assumption)) (by first | exact rfl | assumption) (by ((try simp only [depth_under_make, depth_under_kw, depth_in1, depth_deeper, depth_caller, recursionLimit] at *); (try dsimp only [ktrTop] at *); omega)) (by ((try simp only [units_in1, units_deeper, Around.mark_units, units_caller, cLine] at *); (try dsimp only [ktrTop] at *); omega)) ?_; (intro r9 h9 tk9 n9 F9 N9 hp9; obtain ⟨e9, t9, f9⟩ := hp9; subst e9; subst f9); (try dsimp only); (try k_fold)); skip)
  have hs := etext_short (n := n + 1) (t := .cond c l r) ⟨hg, hg', hg''⟩ (by omega)
  cases ht with | cond hm h1 h2 h3 =>
  have i1 := ih _ _ h1 hg
  have i2 := ih _ _ h2 hg'
  have i3 := ih _ _ h3 hg''
  obtain ⟨a1, k1, v1, n1, e1, m1⟩ := h1.first
  subst e1
  obtain ⟨a2, k2, v2, n2, e2, m2⟩ := h2.first
  subst e2
  w_top off
  unfold Does
  k_fill
  intro dp un gd cn cs a ccd cl outer A₀ base h₀ L m s Q E B F X N T hk hroom hunits hret
  refine wpAny_call ?_
  k_dflt ktr_enter
  k_steps
  exact does_ret hret (by k_asm) (by k_asm) (fun p hp => hp) (sp_cond hg hg' (by assumption) (by assumption) (by assumption) hs)
theorem does_spelled (w : World) (mean : ExcName → Option Value) (mg mb : Str → Option Value) (news : List (Addr × Obj)) : ∀ (n : Nat), n ≤ 5 → ∀ (v : Value) (t : T), TIn news v t → Good n t →
    Does w mean mg mb 152 (2 * n + 6) (16 * n + 60) news [v] (Gives news (TextIs (etext t) 2000)) := by
  intro n
  induction n with
  | zero =>
    intro _ v t ht hg
    cases t with
    | id x => exact spelled_id _ _ _ _ _ _ _ _ ht hg
    | un _ _ => exact hg.elim
    | bin _ _ _ => exact hg.elim
    | cond _ _ _ => exact hg.elim
  | succ n ih =>
    intro hn v t ht hg
    have ih := ih (by omega)
    cases t with
    | id x => exact spelled_id _ _ _ _ _ _ _ _ ht hg
    | un op t => exact spelled_un _ _ _ _ _ _ _ _ _ (by omega) ht hg.1 hg.2 ih
    | bin op l r => exact spelled_bin _ _ _ _ _ _ _ _ _ _ (by omega) ht hg.1 hg.2.1 hg.2.2 ih
    | cond c l r => exact spelled_cond _ _ _ _ _ _ _ _ _ _ (by omega) ht hg.1 hg.2.1 hg.2.2 ih

local macro_rules | `(tactic| k_all) => `(tactic| with_reducible assumption)
/-- the row's dict, as it stands -/
noncomputable abbrev RowIs (w : World) (o : Obj) (c : Addr) (i x sp : Int) : Prop :=
  ∃ t1 t2 t3, o.IsDictOf (PySem.strKind PySem.Challenge.rw_on0100_01.row.prog w) [((Str.ofString "cells"), .ref c), ((Str.ofString "at"), .int i t1), ((Str.ofString "mix"), .int x t2), ((Str.ofString "spare"), .int sp t3)]
/-- .. and what holds of it -/
noncomputable def RowO (w : World) (o : Obj) (c : Addr) (len : Nat) (sp : Int) : Prop := ∃ i x, RowIs w o c i x sp ∧ 0 ≤ x ∧ x < 911 ∧ 0 ≤ i ∧ i ≤ (len : Int)
noncomputable def CellsIn (c : Addr) (vs : List Value) (n : Nat) (rest : List (Addr × Obj)) : Prop := (c, listO vs n) ∈ rest


theorem cells_len {prog : Program} {w : World} {A : Around} {E : Value → Shared → Prop} {s : Shared} {c : Addr} {vs : List Value} {ns : List Int} {Q : Value → Shared → Prop} (hl : s.heap.IsList c vs.toArray) (hI : IntsAre vs ns) (hb : ns.length ≤ 63)
    (h : Q (.int ns.length (s.toks + 1)) { s with toks := s.toks + 1 + 1 }) : wpAny (model prog w) A (call (.builtin "len") [.ref c]) Q E s := by
  have e : vs.toArray.size = ns.length := by rw [List.size_toArray, hI.length]
  exact Calls.call_len_list hl (by rw [e]; omega) (by rw [e]; exact h)

theorem fm_lo (a : Int) {m : Int} (h : 0 < m) : 0 ≤ a.fmod m := Int.fmod_nonneg_of_pos a h
theorem fm_hi (a : Int) {m : Int} (h : 0 < m) : a.fmod m < m := Int.fmod_lt_of_pos a h

set_option maxHeartbeats 1000000 in
theorem does_part (w : World) (mean : ExcName → Option Value) (mg mb : Str → Option Value) (rest : List (Addr × Obj)) (d : Addr) (o : Obj) (sp most : Int) (tk : Tok) (c : Addr) (vs : List Value) (ns : List Int) (n : Nat) (hI : IntsAre vs ns) (hl : ns.length ≤ 63)
    (off : ∀ p ∈ rest, p.1 ≠ d) (hc : (c, listO vs n) ∈ rest) (hr : RowO w o c ns.length sp) (hm : 0 < most) (hm' : most ≤ 20) :
    Does w mean mg mb 119 2 16 ((d, o) :: rest) [.ref d, .int most tk] (fun v news' => ∃ o' r t', news' = (d, o') :: rest ∧ v = .int r t' ∧ RowO w o' c ns.length sp ∧ 0 ≤ r ∧ r < most) := by
  k_with_none
  k_with "subscriptTail" => (k_here; (with_reducible show wpAny _ _ (subscriptTail _ _ (Value.ref _) (Value.str _ _)) _ _ _); k_dflt (refine kda_item (knd := PySem.strKind _ _) (by k_asm) (by k_mem) (by k_asm) (strKind_is _ _ _ _) (by rfl) ?_))
  k_with "setItem ref str" => (k_here; k_dflt (refine kda_set (knd := PySem.strKind _ _) (by k_asm) (by k_asm) (by k_updF) (by k_asm) (strKind_is _ _ _ _) (by kob_size) ?_); intro h' o' F' N' hd'; (try kob_lit); (try dsimp only at N'))
  k_with "call builtin:len" => (k_here; k_dflt (refine cells_len (News.isList (by k_asm) (by k_mem)) (by assumption) (by assumption) ?_))
  k_with "subscriptTail" => (k_here; (with_reducible show wpAny _ _ (subscriptTail _ _ (Value.ref _) (Value.int _ _)) _ _ _); k_dflt (refine item_list_ints (News.isList (by k_asm) (by k_mem)) (by assumption) (by omega) (by omega) (by omega) ?_); intro t')
  obtain ⟨i, x, ⟨t1, t2, t3, hd⟩, hx, hx', hi, hi'⟩ := hr
  w_top off
  unfold Does
  k_fill
  intro dp un gd cn cs a ccd cl outer A₀ base h₀ L m s Q E B F X N T hk hroom hunits hret
  refine wpAny_call ?_
  k_dflt ktr_enter
  k_steps
  · exact hret _ _ _ _ (by k_asm) (by k_asm) ⟨_, _, _, rfl, rfl, ⟨_, _, ⟨_, _, _, by assumption⟩, hx, hx', by omega, by omega⟩, fm_lo _ hm, fm_hi _ hm⟩
  · exact hret _ _ _ _ (by k_asm) (by k_asm) ⟨_, _, _, rfl, rfl, ⟨_, _, ⟨_, _, _, by assumption⟩, fm_lo _ (by decide), fm_hi _ (by decide), by omega, by omega⟩, fm_lo _ hm, fm_hi _ hm⟩
  · exact hret _ _ _ _ (by k_asm) (by k_asm) ⟨_, _, _, rfl, rfl, ⟨_, _, ⟨_, _, _, by assumption⟩, fm_lo _ (by decide), fm_hi _ (by decide), by omega, by omega⟩, by omega, by omega⟩

theorem does_partU (w : World) (mean : ExcName → Option Value) (mg mb : Str → Option Value) {news : List (Addr × Obj)} {g : Obj → List (Addr × Obj)} {d : Addr} {o : Obj} {sp most : Int} {tk : Tok} {c : Addr} {vs : List Value} {ns : List Int} {n : Nat} (hr : RowO w o c ns.length sp) (hI : IntsAre vs ns) (hl : ns.length ≤ 63)
    (U : UpdF d o news g) (hc : (c, listO vs n) ∈ news) (hcd : c ≠ d) (hm : 0 < most) (hm' : most ≤ 20) :
    Does w mean mg mb 119 2 16 news [.ref d, .int most tk] (fun v news' => ∃ o' r t', news' = g o' ∧ v = .int r t' ∧ RowO w o' c ns.length sp ∧ 0 ≤ r ∧ r < most) := by
  obtain ⟨pre, post, rfl, hg, h1, h2⟩ := U.split
  have off : ∀ p ∈ pre ++ post, p.1 ≠ d := fun p hp => (List.mem_append.mp hp).elim (h1 p) (h2 p)
  have hc' : (c, listO vs n) ∈ pre ++ post := by
    rcases List.mem_append.mp hc with h | h
    · exact List.mem_append.mpr (.inl h)
    · rcases List.mem_cons.mp h with h | h
      · exact absurd (congrArg Prod.fst h) hcd
      · exact List.mem_append.mpr (.inr h)
  intro dp un gd cn cs a ccd cl outer A₀ base h₀ L m s Q E B F X N T hk hroom hunits hret
  refine does_part w mean mg mb (pre ++ post) d o sp most tk c vs ns n hI hl off hc' hr hm hm' dp un gd cn cs a ccd cl outer A₀ base h₀ L m s Q E B F X (fun p hp => N p ?_) T hk hroom hunits ?_
  · rcases List.mem_cons.mp hp with rfl | hp
    · exact List.mem_append.mpr (.inr (.head _))
    · rcases List.mem_append.mp hp with hp | hp
      · exact List.mem_append.mpr (.inl hp)
      · exact List.mem_append.mpr (.inr (.tail _ hp))
  · rintro r h' tk' _ F' N' ⟨o', r', t', rfl, rfl, R', lo', hi'⟩
    refine hret _ h' tk' (g o') F' (fun p hp => N' p ?_) ⟨o', r', t', rfl, rfl, R', lo', hi'⟩
    rw [hg] at hp
    rcases List.mem_append.mp hp with hp | hp
    · exact .tail _ (List.mem_append.mpr (.inl hp))
    · rcases List.mem_cons.mp hp with rfl | hp
      · exact .head _
      · exact .tail _ (List.mem_append.mpr (.inr hp))

theorem CellsIn.mono {c : Addr} {vs : List Value} {n : Nat} {r r' : List (Addr × Obj)} (h : CellsIn c vs n r) (s : ∀ p ∈ r, p ∈ r') : CellsIn c vs n r' := s _ h
theorem CellsIn.mem {c : Addr} {vs : List Value} {n : Nat} {r : List (Addr × Obj)} (h : CellsIn c vs n r) : (c, listO vs n) ∈ r := h
/-- what a call of _law_tree leaves: the row turned, a tree over what stood and what was made -/
noncomputable def TreePost (w : World) (c : Addr) (len : Nat) (d : Addr) (rest : List (Addr × Obj)) (n : Nat) (v : Value) (news' : List (Addr × Obj)) : Prop :=
  ∃ o' sp' rest' t, news' = (d, o') :: rest' ∧ (∀ p ∈ rest', p.1 ≠ d) ∧ (∀ p ∈ rest, p ∈ rest') ∧ RowO w o' c len sp' ∧ TIn rest' v t ∧ Good n t
noncomputable def TreeC (w : World) (mean : ExcName → Option Value) (mg mb : Str → Option Value) (c : Addr) (vs : List Value) (ns : List Int) (k n : Nat) : Prop :=
  ∀ (rest : List (Addr × Obj)) (d : Addr) (o : Obj) (sp deep : Int) (tk : Tok), (∀ p ∈ rest, p.1 ≠ d) → CellsIn c vs k rest → RowO w o c ns.length sp → deep = 5 - (n : Int) →
    Does w mean mg mb 133 (n + 5) (8 * n + 40) ((d, o) :: rest) [.ref d, .int deep tk] (TreePost w c ns.length d rest n)

section
variable {w : World} {c d D : Addr} {len n : Nat} {rest r1 r2 r3 all : List (Addr × Obj)} {Q : Value → Shared → Prop} {s : Shared} {h₀ h' : Heap} {L : Addr} {m : Str → Option Value} {tk' k : Nat} {o' : Obj} {sp' : Int} {t1 t2 t3 : Tok} {x op : Str} {v u y : Value} {l r e : T}
theorem leaf_end (hret : ∀ r h' tk' news', Fr h₀ L h' m → News h₀ L h' news' → TreePost w c len d rest n r news' → Q r { s with heap := h', toks := tk' }) (F : Fr h₀ L h' m) (N : News h₀ L h' all)
    (hD : (D, tupO [.str ((Str.ofString "id")) t1, .int 0 t2, .str x t3] k) ∈ all) (ho : (d, o') ∈ all) (hs : ∀ p ∈ rest, p ∈ all) (off : ∀ p ∈ rest, p.1 ≠ d) (hd : @LT.lt Nat _ d D) (R : RowO w o' c len sp') (hx : x ∈ names) : Q (.ref D) { s with heap := h', toks := tk' } := by
  refine hret _ h' tk' ((d, o') :: (D, tupO [.str ((Str.ofString "id")) t1, .int 0 t2, .str x t3] k) :: rest) F (fun p hp => N p ?_) ⟨o', sp', _, .id x, rfl, ?_, fun p hp => .tail _ hp, R, .id (.head _), ?_⟩
  · rcases List.mem_cons.mp hp with rfl | hp
    · exact ho
    · rcases List.mem_cons.mp hp with rfl | hp
      · exact hD
      · exact hs p hp
  · intro p hp
    rcases List.mem_cons.mp hp with rfl | hp
    · exact Nat.ne_of_gt hd
    · exact off p hp
  · cases n <;> exact hx
theorem un_end (hret : ∀ r h' tk' news', Fr h₀ L h' m → News h₀ L h' news' → TreePost w c len d rest (n + 1) r news' → Q r { s with heap := h', toks := tk' }) (F : Fr h₀ L h' m) (N : News h₀ L h' all)
    (hD : (D, tupO [.str ((Str.ofString "un")) t1, .int 0 t2, .str op t3, v] k) ∈ all) (hop : op ∈ unops) (T1 : TIn r1 v l) (G1 : Good n l) (ho : (d, o') ∈ all) (hs : ∀ p ∈ r1, p ∈ all) (off : ∀ p ∈ r1, p.1 ≠ d) (s1 : ∀ p ∈ rest, p ∈ r1) (hd : @LT.lt Nat _ d D) (R : RowO w o' c len sp') :
    Q (.ref D) { s with heap := h', toks := tk' } := by
  refine hret _ h' tk' ((d, o') :: (D, tupO [.str ((Str.ofString "un")) t1, .int 0 t2, .str op t3, v] k) :: r1) F (fun p hp => N p ?_) ⟨o', sp', _, .un op l, rfl, ?_, fun p hp => .tail _ (s1 p hp), R, .un (.head _) (T1.mono fun p hp => .tail _ hp), hop, G1⟩
  · rcases List.mem_cons.mp hp with rfl | hp
    · exact ho
    · rcases List.mem_cons.mp hp with rfl | hp
      · exact hD
      · exact hs p hp
  · intro p hp
    rcases List.mem_cons.mp hp with rfl | hp
    · exact Nat.ne_of_gt hd
    · exact off p hp
theorem bin_end (hret : ∀ r h' tk' news', Fr h₀ L h' m → News h₀ L h' news' → TreePost w c len d rest (n + 1) r news' → Q r { s with heap := h', toks := tk' }) (F : Fr h₀ L h' m) (N : News h₀ L h' all)
    (hD : (D, tupO [.str ((Str.ofString "bin")) t1, .int 0 t2, .str op t3, v, u] k) ∈ all) (hop : op ∈ binops) (T1 : TIn r1 v l) (G1 : Good n l) (T2 : TIn r2 u r) (G2 : Good n r) (s2 : ∀ p ∈ r1, p ∈ r2) (ho : (d, o') ∈ all) (hs : ∀ p ∈ r2, p ∈ all) (off : ∀ p ∈ r2, p.1 ≠ d) (s1 : ∀ p ∈ rest, p ∈ r1)
    (hd : @LT.lt Nat _ d D) (R : RowO w o' c len sp') : Q (.ref D) { s with heap := h', toks := tk' } := by
  refine hret _ h' tk' ((d, o') :: (D, tupO [.str ((Str.ofString "bin")) t1, .int 0 t2, .str op t3, v, u] k) :: r2) F (fun p hp => N p ?_) ⟨o', sp', _, .bin op l r, rfl, ?_, fun p hp => .tail _ (s2 p (s1 p hp)), R, .bin (.head _) (T1.mono fun p hp => .tail _ (s2 p hp)) (T2.mono fun p hp => .tail _ hp), hop, G1, G2⟩
  · rcases List.mem_cons.mp hp with rfl | hp
    · exact ho
    · rcases List.mem_cons.mp hp with rfl | hp
      · exact hD
      · exact hs p hp
  · intro p hp
    rcases List.mem_cons.mp hp with rfl | hp
    · exact Nat.ne_of_gt hd
    · exact off p hp
theorem cond_end (hret : ∀ r h' tk' news', Fr h₀ L h' m → News h₀ L h' news' → TreePost w c len d rest (n + 1) r news' → Q r { s with heap := h', toks := tk' }) (F : Fr h₀ L h' m) (N : News h₀ L h' all)
    (hD : (D, tupO [.str ((Str.ofString "cond")) t1, .int 0 t2, v, u, y] k) ∈ all) (T1 : TIn r1 v l) (G1 : Good n l) (T2 : TIn r2 u r) (G2 : Good n r) (T3 : TIn r3 y e) (G3 : Good n e) (s2 : ∀ p ∈ r1, p ∈ r2) (s3 : ∀ p ∈ r2, p ∈ r3) (ho : (d, o') ∈ all) (hs : ∀ p ∈ r3, p ∈ all) (off : ∀ p ∈ r3, p.1 ≠ d)
    (s1 : ∀ p ∈ rest, p ∈ r1) (hd : @LT.lt Nat _ d D) (R : RowO w o' c len sp') : Q (.ref D) { s with heap := h', toks := tk' } := by
  refine hret _ h' tk' ((d, o') :: (D, tupO [.str ((Str.ofString "cond")) t1, .int 0 t2, v, u, y] k) :: r3) F (fun p hp => N p ?_) ⟨o', sp', _, .cond l r e, rfl, ?_, fun p hp => .tail _ (s3 p (s2 p (s1 p hp))), R, .cond (.head _) (T1.mono fun p hp => .tail _ (s3 p (s2 p hp))) (T2.mono fun p hp => .tail _ (s3 p hp)) (T3.mono fun p hp => .tail _ hp), G1, G2, G3⟩
  · rcases List.mem_cons.mp hp with rfl | hp
    · exact ho
    · rcases List.mem_cons.mp hp with rfl | hp
      · exact hD
      · exact hs p hp
  · intro p hp
    rcases List.mem_cons.mp hp with rfl | hp
    · exact Nat.ne_of_gt hd
    · exact off p hp
end





/-- the cut is made once -/
structure LevelMark : Prop where
/-- the statement that picks a level of operators: its list stands at hand, all else made is dropped -/
noncomputable def LevelEnd (w : World) (c : Addr) (len : Nat) (sp : Int) (d : Addr) (rest : List (Addr × Obj)) (g : Heap) (L : Addr) (m : Str → Option Value) (s : Shared) (f : Flow) (s' : Shared) : Prop :=
  f = .next ∧ ∃ a vs ws k o' h' tk', s' = { s with heap := h', toks := tk' } ∧ RowO w o' c len sp ∧ StrsAre vs ws ∧ (ws.all fun x => binops.contains x) = true ∧ 1 ≤ ws.length ∧ ws.length ≤ 4 ∧ @LT.lt Nat _ d a ∧
    Fr g L h' (fun y => if y = (Str.ofString "level") then some (.ref a) else m y) ∧ News g L h' ((a, listO vs k) :: (d, o') :: rest)
theorem level_end {w : World} {c : Addr} {len : Nat} {sp : Int} {d a : Addr} {rest all : List (Addr × Obj)} {g h' : Heap} {L : Addr} {m : Str → Option Value} {s : Shared} {vs : List Value} {ws : List Str} {k tk' : Nat} {o' : Obj}
    (F : Fr g L h' (fun y => if y = (Str.ofString "level") then some (.ref a) else m y)) (N : News g L h' all) (ha : (a, listO vs k) ∈ all) (hd : (d, o') ∈ all) (hr : ∀ p ∈ rest, p ∈ all) (R : RowO w o' c len sp) (hS : StrsAre vs ws) (hw : (ws.all fun x => binops.contains x) = true) (h1 : 1 ≤ ws.length) (h4 : ws.length ≤ 4)
    (hl : @LT.lt Nat _ d a) : LevelEnd w c len sp d rest g L m s .next { s with heap := h', toks := tk' } := by
  refine ⟨rfl, a, vs, ws, k, o', h', tk', rfl, R, hS, hw, h1, h4, hl, F, fun p hp => N p ?_⟩
  rcases List.mem_cons.mp hp with rfl | hp
  · exact ha
  · rcases List.mem_cons.mp hp with rfl | hp
    · exact hd
    · exact hr p hp
theorem cut_level {M : Model} {A : Around} {E : Value → Shared → Prop} {s : Shared} {st : Stmt} {env : Env} {Q : Flow → Shared → Prop} {w : World} {c : Addr} {len : Nat} {sp : Int} {d : Addr} {o : Obj} {rest : List (Addr × Obj)} {g : Heap} {L : Addr} {m : Str → Option Value}
    (_F : Fr g L s.heap m) (_N : News g L s.heap ((d, o) :: rest)) (_R : RowO w o c len sp)
    (hA : LevelMark → wpAny M A (exec st env) (LevelEnd w c len sp d rest g L m s) E s)
    (hB : ∀ a vs ws k o' h' tk', RowO w o' c len sp → StrsAre vs ws → (ws.all fun x => binops.contains x) = true → 1 ≤ ws.length → ws.length ≤ 4 → @LT.lt Nat _ d a →
      Fr g L h' (fun y => if y = (Str.ofString "level") then some (.ref a) else m y) → News g L h' ((a, listO vs k) :: (d, o') :: rest) → Q .next { s with heap := h', toks := tk' }) : wpAny M A (exec st env) Q E s := by
  refine wpAny_mono (hA ⟨⟩) (fun f s' h => ?_) fun _ _ e => e
  obtain ⟨rfl, a, vs, ws, k, o', h', tk', rfl, R, hS, hw, h1, h4, hl, F, N⟩ := h
  exact hB a vs ws k o' h' tk' R hS hw h1 h4 hl F N
theorem strs_len {prog : Program} {w : World} {A : Around} {E : Value → Shared → Prop} {s : Shared} {c : Addr} {vs : List Value} {ws : List Str} {Q : Value → Shared → Prop} (hl : s.heap.IsList c vs.toArray) (hI : StrsAre vs ws) (hb : ws.length ≤ 4)
    (h : Q (.int ws.length (s.toks + 1)) { s with toks := s.toks + 1 + 1 }) : wpAny (model prog w) A (call (.builtin "len") [.ref c]) Q E s := by
  have e : vs.toArray.size = ws.length := by rw [List.size_toArray, hI.length]
  exact Calls.call_len_list hl (by rw [e]; omega) (by rw [e]; exact h)
theorem op_item {prog : Program} {w : World} {A : Around} {E : Value → Shared → Prop} {s : Shared} {value slice : PySem.Expr} {l : Addr} {vs : List Value} {ws : List Str} {i : Int} {u : Tok} {Q : Value → Shared → Prop} (hl : s.heap.IsList l vs.toArray) (hS : StrsAre vs ws) (hw : (ws.all fun x => binops.contains x) = true)
    (h0 : 0 ≤ i) (h1 : i < (ws.length : Int)) (h4 : ws.length ≤ 4) (h : ∀ op t', op ∈ binops → Q (.str op t') s)
    (hs : subscripted slice false (.ref l) (.int i u) = operate [.ref l, .int i u] (getItem (.ref l) (.int i u)) := by with_unfolding_all rfl) : wpAny (model prog w) A (subscriptTail value slice (.ref l) (.int i u)) Q E s := by
  refine KTb.item_list hl hS h0 h1 (by omega) (fun t' hlt => h _ t' ?_) hs
  have hm : ws.getD i.toNat PySem.Str.empty ∈ ws := by rw [List.getD_eq_getElem?_getD, List.getElem?_eq_getElem hlt]; exact List.getElem_mem hlt
  exact List.contains_iff_mem.mp (List.all_eq_true.mp hw _ hm)

set_option maxHeartbeats 0 in
theorem tree_zero (w : World) (mean : ExcName → Option Value) (mg mb : Str → Option Value) (c : Addr) (vs : List Value) (ns : List Int) (k : Nat) (hI : IntsAre vs ns) (hl : ns.length ≤ 63) : TreeC w mean mg mb c vs ns k 0 := by
  k_with_none
  k_with "subscriptTail" => (k_here; (with_reducible show wpAny _ _ (subscriptTail _ _ (Value.ref _) (Value.str _ _)) _ _ _); k_dflt (refine kda_item (knd := PySem.strKind _ _) (by k_asm) (by k_mem) (by k_asm) (strKind_is _ _ _ _) (by rfl) ?_))
  k_with "setItem ref str" => (k_here; k_dflt (refine kda_set (knd := PySem.strKind _ _) (by k_asm) (by k_asm) (by k_updF) (by k_asm) (strKind_is _ _ _ _) (by kob_size) ?_); intro h' o' F' N' hd'; (try kob_lit); (try dsimp only at N'))
  k_with "call ref" => (k_here; (with_reducible show wpAny _ _ (call (Value.ref 126) _) _ _ _); k_dflt (refine does_use (f := 126) (by k_asm) (by k_asm) (by k_asm) (by k_asm) (by k_asm) (by exact does_order _ _ _ _ _) (by first | exact rfl | assumption) (by ((try simp only [depth_under_make, depth_under_kw, depth_in1, depth_deeper, depth_caller, recursionLimit] at *); (try dsimp only [ktrTop] at *); omega)) (by ((try simp only [units_in1, units_deeper, Around.mark_units, units_caller, cLine] at *); (try dsimp only [ktrTop] at *); omega)) ?_; (intro r9 h9 tk9 n9 F9 N9 hp9; obtain ⟨b, b0, b1, b2, b3, b4, b5, b6, b7, b8, b9, b10, v0, v1, v2, v3, v4, v5, v6, v7, v8, v9, v10, e9, f9, O9, l9, c9⟩ := hp9; subst e9; subst f9; (try k_lt l9)); (try dsimp only); (try k_fold)); skip)
  k_with "call ref" => (k_here; (with_reducible show wpAny _ _ (call (Value.ref 119) _) _ _ _); k_dflt (refine does_use (f := 119) (by k_asm) (by k_asm) (by k_asm) (by k_asm) (by k_asm) (by exact does_partU _ _ _ _ (by first | with_reducible assumption | exact ⟨_, _, ⟨_, _, _, by assumption⟩, by assumption, by assumption, by assumption, by assumption⟩) (by assumption) (by assumption) (by k_updF) (by k_mem) (by assumption) (by omega) (by omega)) (by first | exact rfl | assumption) (by ((try simp only [depth_under_make, depth_under_kw, depth_in1, depth_deeper, depth_caller, recursionLimit] at *); (try dsimp only [ktrTop] at *); omega)) (by ((try simp only [units_in1, units_deeper, Around.mark_units, units_caller, cLine] at *); (try dsimp only [ktrTop] at *); omega)) ?_; (intro r9 h9 tk9 n9 F9 N9 hp9; obtain ⟨o9, i9, t9, e9, f9, R9, lo9, hi9⟩ := hp9; subst e9; subst f9; (try dsimp only at N9); (try (have z9 := zero_of lo9 hi9; subst z9))); (try dsimp only); (try k_fold)); skip)
  k_with "call ref" => (k_here; (with_reducible show wpAny _ _ (call (Value.ref 119) _) _ _ _); exfalso; omega)
  k_with "spliced" => (k_here; (with_reducible show wpAny _ _ (spliced (backTo _ (starEach (Expr.Constant _ _ _ :: _) _))) _ _ _); k_dflt (refine' spliced_strs ?_ ?_); rotate_left; (focus ((repeat constructor); done)); intro vs8 tk8 sv8)
  k_with "spliced" => (k_here; (with_reducible show wpAny _ _ (spliced (backTo _ (starEach (Expr.Constant _ _ _ :: Expr.Constant _ _ _ :: _) _))) _ _ _); k_dflt (refine' spliced_ints ?_ ?_); rotate_left; (focus ((repeat constructor); done)); intro vs8 tk8 iv8)
  k_with "call builtin:len" => (k_here; k_dflt (refine strs_len (News.isList (by k_asm) (by k_mem)) (by assumption) (by assumption) ?_))
  k_with "subscriptTail" => (k_here; (with_reducible show wpAny _ _ (subscriptTail _ _ (Value.ref _) (Value.int _ _)) _ _ _); k_dflt (first | (refine op_item (News.isList (by k_asm) (by k_mem)) (by assumption) (by assumption) (by assumption) (by assumption) (by assumption) ?_; intro op9 t9 hop9) | (refine text_item (News.isList (by k_asm) (by k_mem)) (by assumption) (by assumption) (Int.lt_of_lt_of_le (by assumption) (by decide)) (by decide) ?_; intro op9 t9 hop9) | (refine int_item (News.isList (by k_asm) (by k_mem)) (by assumption) (by assumption) (Int.lt_of_lt_of_le (by assumption) (by decide)) (by decide) (by decide) ?_; intro x9 t9 lo9 hi9) | (refine order_item (by k_asm) (by k_mem) (by assumption) (by (repeat (first | (with_reducible exact sub_nil) | (with_reducible refine sub_both ?_) | (with_reducible refine sub_cons ?_))); done) (by assumption) (by assumption) ?_; intro bk9 vk9 ls9 mk9 sk9 lk9 ok9)))
  k_with "exec Assign" => (k_here; (with_reducible show wpAny _ _ (exec (Stmt.Assign [Expr.Name (Str.ofString "level") _] _ _) _) _ _ _); (fail_if_success (rename LevelMark => lm8)); k_dflt (refine cut_level (by k_asm) (by k_asm) (by with_reducible assumption) (fun lm9 => ?_) (fun a9 vs9 ws9 k9 o9 h9 tk9 R9 S9 w9 b9 u9 l9 F9 N9 => ?_)); (all_goals (try dsimp only)); (all_goals (try k_fold)))
  intro rest d o sp deep tk off hc hr hdeep
  have hcm := hc.mem
  have hcd : c ≠ d := off _ hcm
  obtain ⟨i, x, ⟨t1, t2, t3, hd⟩, hx, hx', hi, hi'⟩ := hr
  simp only [Int.ofNat_zero, Int.sub_zero] at hdeep
  subst hdeep
  w_top off
  unfold Does
  k_fill
  intro dp un gd cn cs a ccd cl outer A₀ base h₀ L m s Q E B F X N T hk hroom hunits hret
  refine wpAny_call ?_
  k_dflt ktr_enter
  k_steps
  all_goals first
    | (exfalso; omega)
    | exact leaf_end hret (by k_asm) (by k_asm) (by k_mem) (by k_mem) (by first | ((repeat (first | (with_reducible exact sub_refl) | (with_reducible refine sub_cons ?_))); done) | (intro p9 hp9; simp only [List.mem_cons, List.mem_append] at hp9 ⊢; simp only [hp9, or_true, true_or])) (by assumption) (by omega) (by assumption) (by assumption)



set_option maxHeartbeats 4000000 in
theorem tree_succ (w : World) (mean : ExcName → Option Value) (mg mb : Str → Option Value) (c : Addr) (vs : List Value) (ns : List Int) (k n : Nat) (hI : IntsAre vs ns) (hl : ns.length ≤ 63) (ih : TreeC w mean mg mb c vs ns k n) : TreeC w mean mg mb c vs ns k (n + 1) := by
  k_with_none
  k_with "subscriptTail" => (k_here; (with_reducible show wpAny _ _ (subscriptTail _ _ (Value.ref _) (Value.str _ _)) _ _ _); k_dflt (refine kda_item (knd := PySem.strKind _ _) (by k_asm) (by k_mem) (by k_asm) (strKind_is _ _ _ _) (by rfl) ?_))
  k_with "setItem ref str" => (k_here; k_dflt (refine kda_set (knd := PySem.strKind _ _) (by k_asm) (by k_asm) (by k_updF) (by k_asm) (strKind_is _ _ _ _) (by kob_size) ?_); intro h' o' F' N' hd'; (try kob_lit); (try dsimp only at N'))
  k_with "call ref" => (k_here; (with_reducible show wpAny _ _ (call (Value.ref 126) _) _ _ _); k_dflt (refine does_use (f := 126) (by k_asm) (by k_asm) (by k_asm) (by k_asm) (by k_asm) (by exact does_order _ _ _ _ _) (by first | exact rfl | assumption) (by ((try simp only [depth_under_make, depth_under_kw, depth_in1, depth_deeper, depth_caller, recursionLimit] at *); (try dsimp only [ktrTop] at *); omega)) (by ((try simp only [units_in1, units_deeper, Around.mark_units, units_caller, cLine] at *); (try dsimp only [ktrTop] at *); omega)) ?_; (intro r9 h9 tk9 n9 F9 N9 hp9; obtain ⟨b, b0, b1, b2, b3, b4, b5, b6, b7, b8, b9, b10, v0, v1, v2, v3, v4, v5, v6, v7, v8, v9, v10, e9, f9, O9, l9, c9⟩ := hp9; subst e9; subst f9; (try k_lt l9)); (try dsimp only); (try k_fold)); skip)
  k_with "call ref" => (k_here; (with_reducible show wpAny _ _ (call (Value.ref 119) _) _ _ _); k_dflt (refine does_use (f := 119) (by k_asm) (by k_asm) (by k_asm) (by k_asm) (by k_asm) (by exact does_partU _ _ _ _ (by first | with_reducible assumption | exact ⟨_, _, ⟨_, _, _, by assumption⟩, by assumption, by assumption, by assumption, by assumption⟩) (by assumption) (by assumption) (by k_updF) (by k_mem) (by assumption) (by omega) (by omega)) (by first | exact rfl | assumption) (by ((try simp only [depth_under_make, depth_under_kw, depth_in1, depth_deeper, depth_caller, recursionLimit] at *); (try dsimp only [ktrTop] at *); omega)) (by ((try simp only [units_in1, units_deeper, Around.mark_units, units_caller, cLine] at *); (try dsimp only [ktrTop] at *); omega)) ?_; (intro r9 h9 tk9 n9 F9 N9 hp9; obtain ⟨o9, i9, t9, e9, f9, R9, lo9, hi9⟩ := hp9; subst e9; subst f9; (try dsimp only at N9); (try (have z9 := zero_of lo9 hi9; subst z9))); (try dsimp only); (try k_fold)); skip)
  k_with "call ref" => (k_here; (with_reducible show wpAny _ _ (call (Value.ref 119) _) _ _ _); exfalso; omega)
  k_with "spliced" => (k_here; (with_reducible show wpAny _ _ (spliced (backTo _ (starEach (Expr.Constant _ _ _ :: _) _))) _ _ _); k_dflt (refine' spliced_strs ?_ ?_); rotate_left; (focus ((repeat constructor); done)); intro vs8 tk8 sv8)
  k_with "spliced" => (k_here; (with_reducible show wpAny _ _ (spliced (backTo _ (starEach (Expr.Constant _ _ _ :: Expr.Constant _ _ _ :: _) _))) _ _ _); k_dflt (refine' spliced_ints ?_ ?_); rotate_left; (focus ((repeat constructor); done)); intro vs8 tk8 iv8)
  k_with "call builtin:len" => (k_here; k_dflt (refine strs_len (News.isList (by k_asm) (by k_mem)) (by assumption) (by assumption) ?_))
  k_with "subscriptTail" => (k_here; (with_reducible show wpAny _ _ (subscriptTail _ _ (Value.ref _) (Value.int _ _)) _ _ _); k_dflt (first | (refine op_item (News.isList (by k_asm) (by k_mem)) (by assumption) (by assumption) (by assumption) (by assumption) (by assumption) ?_; intro op9 t9 hop9) | (refine text_item (News.isList (by k_asm) (by k_mem)) (by assumption) (by assumption) (Int.lt_of_lt_of_le (by assumption) (by decide)) (by decide) ?_; intro op9 t9 hop9) | (refine int_item (News.isList (by k_asm) (by k_mem)) (by assumption) (by assumption) (Int.lt_of_lt_of_le (by assumption) (by decide)) (by decide) (by decide) ?_; intro x9 t9 lo9 hi9) | (refine order_item (by k_asm) (by k_mem) (by assumption) (by (repeat (first | (with_reducible exact sub_nil) | (with_reducible refine sub_both ?_) | (with_reducible refine sub_cons ?_))); done) (by assumption) (by assumption) ?_; intro bk9 vk9 ls9 mk9 sk9 lk9 ok9)))
  k_with "exec Assign" => (k_here; (with_reducible show wpAny _ _ (exec (Stmt.Assign [Expr.Name (Str.ofString "level") _] _ _) _) _ _ _); (fail_if_success (rename LevelMark => lm8)); k_dflt (refine cut_level (by k_asm) (by k_asm) (by with_reducible assumption) (fun lm9 => ?_) (fun a9 vs9 ws9 k9 o9 h9 tk9 R9 S9 w9 b9 u9 l9 F9 N9 => ?_)); (all_goals (try dsimp only)); (all_goals (try k_fold)))
  k_with "call ref" => (k_here; (with_reducible show wpAny _ _ (call (Value.ref 133) _) _ _ _); k_dflt (refine does_useL (f := 133) (by k_asm) (by k_asm) (by k_asm) (by k_asm) (by exact (by assumption : TreeC _ _ _ _ _ _ _ _ _) _ _ _ _ _ _ (by with_reducible assumption) (by with_reducible assumption) (by first | with_reducible assumption | exact ⟨_, _, ⟨_, _, _, by assumption⟩, by assumption, by assumption, by assumption, by assumption⟩) (by omega)) (by first | k_asm | exact cb_drop (by assumption) (by first | ((repeat (first | (with_reducible exact sub_refl) | (with_reducible refine sub_cons ?_))); done) | (intro p9 hp9; simp only [List.mem_cons, List.mem_append] at hp9 ⊢; simp only [hp9, or_true, true_or]))) (by first | exact rfl | assumption) (by ((try simp only [depth_under_make, depth_under_kw, depth_in1, depth_deeper, depth_caller, recursionLimit] at *); (try dsimp only [ktrTop] at *); omega)) (by ((try simp only [units_in1, units_deeper, Around.mark_units, units_caller, cLine] at *); (try dsimp only [ktrTop] at *); omega)) ?_; (intro r9 h9 tk9 n9 F9 N9 hp9; obtain ⟨o9, sp9, rest9, tt9, e9, off9, sub9, R9, T9, G9⟩ := hp9; subst e9; (have hc9 := CellsIn.mono (by assumption) sub9); (have hm9 := CellsIn.mem hc9)); (try dsimp only); (try k_fold)); skip)
  intro rest d o sp deep tk off hc hr hdeep
  have hcm := hc.mem
  have hcd : c ≠ d := off _ hcm
  obtain ⟨i, x, ⟨t1, t2, t3, hd⟩, hx, hx', hi, hi'⟩ := hr
  w_top off
  unfold Does
  k_fill
  intro dp un gd cn cs a ccd cl outer A₀ base h₀ L m s Q E B F X N T hk hroom hunits hret
  refine wpAny_call ?_
  k_dflt ktr_enter
  k_steps
  all_goals first
    | ((refine' level_end ?F ?N ?ha ?hd ?hr ?R ?hS ?hw ?h1 ?h4 ?hl; (case F => k_asm); (case N => k_asm); (case ha => assumption); (case hd => k_mem); (case hr => exact (by first | ((repeat (first | (with_reducible exact sub_refl) | (with_reducible refine sub_cons ?_))); done) | (intro p9 hp9; simp only [List.mem_cons, List.mem_append] at hp9 ⊢; simp only [hp9, or_true, true_or]))); (case R => with_reducible assumption); (case hS => with_reducible assumption); (case hw => exact LvlIs.ops (by assumption)); (case h1 => exact LvlIs.lo (by assumption)); (case h4 => exact LvlIs.hi (by assumption)); (case hl => omega)))
    | (exfalso; omega)
    | exact leaf_end hret (by k_asm) (by k_asm) (by k_mem) (by k_mem) (by first | ((repeat (first | (with_reducible exact sub_refl) | (with_reducible refine sub_cons ?_))); done) | (intro p9 hp9; simp only [List.mem_cons, List.mem_append] at hp9 ⊢; simp only [hp9, or_true, true_or])) (by assumption) (by omega) (by assumption) (by assumption)
    | exact un_end hret (by k_asm) (by k_asm) (by k_mem) (by assumption) (by assumption) (by assumption) (by k_mem) (by first | ((repeat (first | (with_reducible exact sub_refl) | (with_reducible refine sub_cons ?_))); done) | (intro p9 hp9; simp only [List.mem_cons, List.mem_append] at hp9 ⊢; simp only [hp9, or_true, true_or])) (by assumption) (by assumption) (by omega) (by assumption)
    | exact bin_end hret (by k_asm) (by k_asm) (by k_mem) (by assumption) (by assumption) (by assumption) (by assumption) (by assumption) (by assumption) (by k_mem) (by first | ((repeat (first | (with_reducible exact sub_refl) | (with_reducible refine sub_cons ?_))); done) | (intro p9 hp9; simp only [List.mem_cons, List.mem_append] at hp9 ⊢; simp only [hp9, or_true, true_or])) (by assumption) (by assumption) (by omega) (by assumption)
    | exact cond_end hret (by k_asm) (by k_asm) (by k_mem) (by assumption) (by assumption) (by assumption) (by assumption) (by assumption) (by assumption) (by assumption) (by assumption) (by k_mem) (by first | ((repeat (first | (with_reducible exact sub_refl) | (with_reducible refine sub_cons ?_))); done) | (intro p9 hp9; simp only [List.mem_cons, List.mem_append] at hp9 ⊢; simp only [hp9, or_true, true_or])) (by assumption) (by assumption) (by omega) (by assumption)

theorem does_tree (w : World) (mean : ExcName → Option Value) (mg mb : Str → Option Value) (c : Addr) (vs : List Value) (ns : List Int) (k : Nat) (hI : IntsAre vs ns) (hl : ns.length ≤ 63) : ∀ n, TreeC w mean mg mb c vs ns k n := by
  intro n
  induction n with
  | zero => exact tree_zero w mean mg mb c vs ns k hI hl
  | succ n ih => exact tree_succ w mean mg mb c vs ns k n hI hl ih

theorem law_tree_use (w : World) (mean : ExcName → Option Value) (mg mb : Str → Option Value) {c d : Addr} {vs : List Value} {ns : List Int} {k : Nat} {rest : List (Addr × Obj)} {o : Obj} {tk : Tok} {x sp : Int} (R : RowIs w o c 0 x sp) (off : ∀ p ∈ rest, p.1 ≠ d) (hc : (c, listO vs k) ∈ rest) (hI : IntsAre vs ns) (hl : ns.length ≤ 63)
    (h0 : 0 ≤ x) (h1 : x < 911) : Does w mean mg mb 133 10 80 ((d, o) :: rest) [.ref d, .int 0 tk] (TreePost w c ns.length d rest 5) :=
  does_tree w mean mg mb c vs ns k hI hl 5 rest d o sp 0 tk off hc ⟨0, x, R, h0, h1, by omega, by omega⟩ rfl
theorem wrap_zero {n : Nat} {t : T} (hg : Good n t) : wrap (decide (rankT t < 0)) (etext t) = etext t := by
  have h : ¬ rankT t < 0 := by
    cases t with
    | id _ => simp only [rankT]; omega
    | un _ _ => simp only [rankT]; omega
    | bin op l r => have := prec_bound hg.op; simp only [rankT]; omega
    | cond _ _ _ => simp only [rankT]; omega
  rw [decide_eq_false h]; rfl






theorem eq_same {prog : Program} {w : World} {A : Around} {E : Value → Shared → Prop} {s : Shared} {x : Str} {t u : Tok} {Q : Value → Shared → Prop} (h : Q (.bool true) s) : wpAny (model prog w) A (compareOp .Eq (.str x t) (.str x u)) Q E s :=
  eq_str (by rw [beq_self_eq_true]; exact h)
theorem ne_same {prog : Program} {w : World} {A : Around} {E : Value → Shared → Prop} {s : Shared} {x : Str} {t u : Tok} {Q : Value → Shared → Prop} (h : Q (.bool false) s) : wpAny (model prog w) A (compareOp .NotEq (.str x t) (.str x u)) Q E s :=
  ne_str (by rw [bne_self_eq_false]; exact h)

set_option maxHeartbeats 3000000 in
theorem walks : PySem.Challenge.rw_on0100_01.Holds := hd (by
  k_with_none
  k_with "call ref" => (k_here; (with_reducible show wpAny _ _ (call (Value.ref 133) _) _ _ _); k_dflt (refine does_use (f := 133) (by k_asm) (by k_asm) (by k_asm) (by k_asm) (by k_asm) (by exact law_tree_use _ _ _ _ ⟨_, _, _, by assumption⟩ (by k_all) (by k_mem) (by assumption) (by omega) (by omega) (by omega)) (by first | exact rfl | assumption) (by ((try simp only [depth_under_make, depth_under_kw, depth_in1, depth_deeper, depth_caller, recursionLimit] at *); (try dsimp only [ktrTop] at *); omega)) (by ((try simp only [units_in1, units_deeper, Around.mark_units, units_caller, cLine] at *); (try dsimp only [ktrTop] at *); omega)) ?_; (intro r9 h9 tk9 n9 F9 N9 hp9; obtain ⟨o9, sp9, rest9, tt9, e9, off9, sub9, R9, T9, G9⟩ := hp9; subst e9; obtain ⟨a9, k9, v9, m9, f9, M9⟩ := T9.first; subst f9); (try dsimp only); (try k_fold)); skip)
  k_with "call ref" => (k_here; (with_reducible show wpAny _ _ (call (Value.ref 152) _) _ _ _); k_dflt (refine does_use (f := 152) (by k_asm) (by k_asm) (by k_asm) (by k_asm) (by k_asm) (by exact does_spelled _ _ _ _ _ 5 (Nat.le_refl _) _ _ (TIn.mono (by assumption) (by first | ((repeat (first | (with_reducible exact sub_refl) | (with_reducible refine sub_cons ?_))); done) | (intro p9 hp9; simp only [List.mem_cons, List.mem_append] at hp9 ⊢; simp only [hp9, or_true, true_or]))) (by assumption)) (by first | exact rfl | assumption) (by ((try simp only [depth_under_make, depth_under_kw, depth_in1, depth_deeper, depth_caller, recursionLimit] at *); (try dsimp only [ktrTop] at *); omega)) (by ((try simp only [units_in1, units_deeper, Around.mark_units, units_caller, cLine] at *); (try dsimp only [ktrTop] at *); omega)) ?_; (intro r9 h9 tk9 n9 F9 N9 hp9; obtain ⟨e9, x9, t9, f9, v9, l9⟩ := hp9; subst e9; subst f9; subst v9); (try dsimp only); (try k_fold)); skip)
  k_with "call ref" => (k_here; (with_reducible show wpAny _ _ (call (Value.ref 112) _) _ _ _); k_dflt (refine does_use (f := 112) (by k_asm) (by k_asm) (by k_asm) (by k_asm) (by k_asm) (by exact does_expr _ _ _ _ _ 5 (Nat.le_refl _) _ _ (TIn.mono (by assumption) (by first | ((repeat (first | (with_reducible exact sub_refl) | (with_reducible refine sub_cons ?_))); done) | (intro p9 hp9; simp only [List.mem_cons, List.mem_append] at hp9 ⊢; simp only [hp9, or_true, true_or]))) (by assumption)) (by first | exact rfl | assumption) (by ((try simp only [depth_under_make, depth_under_kw, depth_in1, depth_deeper, depth_caller, recursionLimit] at *); (try dsimp only [ktrTop] at *); omega)) (by ((try simp only [units_in1, units_deeper, Around.mark_units, units_caller, cLine] at *); (try dsimp only [ktrTop] at *); omega)) ?_; (intro r9 h9 tk9 n9 F9 N9 hp9; obtain ⟨e9, x9, t9, f9, v9, l9⟩ := hp9; subst e9; subst f9; subst v9); (try dsimp only); (try k_fold)); skip)
  k_with "call ref" => (k_here; (with_reducible show wpAny _ _ (call (Value.ref 84) _) _ _ _); k_dflt (refine does_use (f := 84) (by k_asm) (by k_asm) (by k_asm) (by k_asm) (by k_asm) (by exact does_operand _ _ _ _ _ _ _ _ _ 5 (TIn.mono (by assumption) (by first | ((repeat (first | (with_reducible exact sub_refl) | (with_reducible refine sub_cons ?_))); done) | (intro p9 hp9; simp only [List.mem_cons, List.mem_append] at hp9 ⊢; simp only [hp9, or_true, true_or]))) (does_expr _ _ _ _ _ 5 (Nat.le_refl _) _ _ (TIn.mono (by assumption) (by first | ((repeat (first | (with_reducible exact sub_refl) | (with_reducible refine sub_cons ?_))); done) | (intro p9 hp9; simp only [List.mem_cons, List.mem_append] at hp9 ⊢; simp only [hp9, or_true, true_or]))) (by assumption))) (by first | exact rfl | assumption) (by ((try simp only [depth_under_make, depth_under_kw, depth_in1, depth_deeper, depth_caller, recursionLimit] at *); (try dsimp only [ktrTop] at *); omega)) (by ((try simp only [units_in1, units_deeper, Around.mark_units, units_caller, cLine] at *); (try dsimp only [ktrTop] at *); omega)) ?_; (intro r9 h9 tk9 n9 F9 N9 hp9; obtain ⟨e9, x9, t9, f9, v9, l9⟩ := hp9; subst e9; subst f9; (try rw [wrap_zero (by assumption)] at v9); subst v9); (try dsimp only); (try k_fold)); skip)
  k_with "call ref" => (k_here; (with_reducible show wpAny _ _ (call (Value.ref 145) _) _ _ _); k_dflt (refine does_use (f := 145) (by k_asm) (by k_asm) (by k_asm) (by k_asm) (by k_asm) (by exact does_inner _ _ _ _ _ _ _ _ 5 (does_spelled _ _ _ _ _ 5 (Nat.le_refl _) _ _ (TIn.mono (by assumption) (by first | ((repeat (first | (with_reducible exact sub_refl) | (with_reducible refine sub_cons ?_))); done) | (intro p9 hp9; simp only [List.mem_cons, List.mem_append] at hp9 ⊢; simp only [hp9, or_true, true_or]))) (by assumption))) (by first | exact rfl | assumption) (by ((try simp only [depth_under_make, depth_under_kw, depth_in1, depth_deeper, depth_caller, recursionLimit] at *); (try dsimp only [ktrTop] at *); omega)) (by ((try simp only [units_in1, units_deeper, Around.mark_units, units_caller, cLine] at *); (try dsimp only [ktrTop] at *); omega)) ?_; (intro r9 h9 tk9 n9 F9 N9 hp9; obtain ⟨e9, x9, t9, f9, v9, l9⟩ := hp9; subst e9; subst f9; (rw [same_un (by assumption)] at v9); subst v9); (try dsimp only); (try k_fold)); skip)
  k_with "subscriptTail" => (k_here; (with_reducible show wpAny _ _ (subscriptTail _ _ (Value.ref _) (Value.int 0 _)) _ _ _); k_dflt (refine first_at (News.isTup (by k_asm) (by k_mem)) ?_; k_whole))
  k_with "compareOp Eq str str" => (with_reducible refine eq_same ?_)
  k_with "compareOp NotEq str str" => (with_reducible refine ne_same ?_)
  k_with "pyIter ref" => k_state (fun pre m items => 0 ≤ m ∧ m < 911 ∧ items.length = pre.length) "mix" "cells"
  k_go0
  all_goals try k_fold
  k_steps)

end Mine
theorem PySem.Challenge.cw_on0100_01_holds : PySem.Challenge.rw_on0100_01.Holds := by
  exact Mine.walks
