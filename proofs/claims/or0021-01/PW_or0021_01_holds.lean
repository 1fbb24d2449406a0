import PyProof.Rows.All
import Wide.All
import OpenK.AllK
import Wide.FinOn
import PySem.Challenge.RW_or0021_01
open PySem PySem.W PyProof.Rows
set_option Elab.async false
set_option compiler.extract_closed false
set_option maxRecDepth 100000
set_option maxHeartbeats 8000000
namespace Mine
open_top hd for PySem.Challenge.rw_or0021_01
local macro_rules | `(tactic| walk_at $s:str) => `(tactic| k_extra $(Lean.Syntax.mkStrLit ("own " ++ s.getString)))
section
/-- a call of the def at f, with what Ret says of its way back -/
abbrev Claim (w : World) (mean : ExcName → Option Value) (mg mb : Str → Option Value) (k : Nat) (f : Addr) (news : List (Addr × Obj)) (vs : List Value) (pre : Prop)
    (Ret : Heap → Heap → Addr → (Str → Option Value) → Shared → (Value → Shared → Prop) → Prop) : Prop :=
  ∀ (dp un : Nat) (gd : Option (List Code)) (cn : Str) (cs : Scope) (a : Addr) (ccd : Value) (cl : List (Str × Addr)) (outer : List Env) (A₀ : Around) (base h₀ : Heap) (L : Addr) (m : Str → Option Value) (s : Shared) (Q E : Value → Shared → Prop),
    Below A₀ base outer h₀ → Fr h₀ L s.heap m → (Mine.hd.heap_39 w.params).In h₀ → News h₀ L s.heap news → Top Mine.hd.view_39 (looseW Mine.hd.view_39 [Str.ofString "PostError"]) mean mg mb h₀ → cs.kind = .function →
    pre → dp + k < recursionLimit → un + 20 * k < cLine → Ret base h₀ L m s Q →
    wpAny (model PySem.Challenge.rw_or0021_01.row.prog w) (ktrTop dp un gd cn cs L a ccd cl outer) (call (.ref f) vs) Q E s
theorem Claim.use {w : World} {mean : ExcName → Option Value} {mg mb : Str → Option Value} {k : Nat} {f : Addr} {news : List (Addr × Obj)} {vs : List Value} {pre : Prop} {Ret : Heap → Heap → Addr → (Str → Option Value) → Shared → (Value → Shared → Prop) → Prop}
    (C : Claim w mean mg mb k f news vs pre Ret) {dp un : Nat} {gd : Option (List Code)} {cn : Str} {cs : Scope} {a : Addr} {ccd : Value} {cl : List (Str × Addr)} {outer : List Env} {A₀ : Around} {base h₀ : Heap} {L : Addr} {m : Str → Option Value} {s : Shared} {Q E : Value → Shared → Prop}
    (hp : pre) (hr : Ret base h₀ L m s Q)
    (N : News h₀ L s.heap news := by k_asm) (F : Fr h₀ L s.heap m := by k_asm) (B : Below A₀ base outer h₀ := by k_asm) (X : (Mine.hd.heap_39 w.params).In h₀ := by k_asm) (T : Top Mine.hd.view_39 (looseW Mine.hd.view_39 [Str.ofString "PostError"]) mean mg mb h₀ := by k_asm)
    (hk : cs.kind = .function := by first | exact rfl | assumption) (hd : dp + k < recursionLimit := by ktr_room) (hu : un + 20 * k < cLine := by ktr_units) :
    wpAny (model PySem.Challenge.rw_or0021_01.row.prog w) (ktrTop dp un gd cn cs L a ccd cl outer) (call (.ref f) vs) Q E s := C _ _ _ _ _ _ _ _ _ _ _ _ _ _ _ _ _ B F X N T hk hp hd hu hr
theorem Claim.use2 {w : World} {mean : ExcName → Option Value} {mg mb : Str → Option Value} {k : Nat} {f : Addr} {news : List (Addr × Obj)} {vs : List Value} {pre : Prop} {Ret : Heap → Heap → Addr → (Str → Option Value) → Shared → (Value → Shared → Prop) → Prop}
    (C : Claim w mean mg mb k f news vs pre Ret) {dp un : Nat} {gd : Option (List Code)} {cn : Str} {cs : Scope} {a : Addr} {ccd : Value} {cl : List (Str × Addr)} {outer : List Env} {A₀ : Around} {base h₀ : Heap} {L : Addr} {m : Str → Option Value} {s : Shared} {Q E : Value → Shared → Prop}
    (N : News h₀ L s.heap news := by k_asm) (F : Fr h₀ L s.heap m := by k_asm) (B : Below A₀ base outer h₀ := by k_asm) (X : (Mine.hd.heap_39 w.params).In h₀ := by k_asm) (T : Top Mine.hd.view_39 (looseW Mine.hd.view_39 [Str.ofString "PostError"]) mean mg mb h₀ := by k_asm)
    (hk : cs.kind = .function := by first | exact rfl | assumption) (hp : pre) (hd : dp + k < recursionLimit := by ktr_room) (hu : un + 20 * k < cLine := by ktr_units) (hr : Ret base h₀ L m s Q) :
    wpAny (model PySem.Challenge.rw_or0021_01.row.prog w) (ktrTop dp un gd cn cs L a ccd cl outer) (call (.ref f) vs) Q E s := C _ _ _ _ _ _ _ _ _ _ _ _ _ _ _ _ _ B F X N T hk hp hd hu hr
end
section
def isLeap (y : Int) : Bool := (y.fmod 4 == 0) && ((y.fmod 100 != 0) || (y.fmod 400 == 0))
theorem c_is_leap (w : World) (mean mg mb) (news) (y : Int) (t : Tok) : Claim w mean mg mb 1 81 news [.int y t] True (fun _ h₀ L m s Q => CbRet h₀ L m news s Q (fun _ => .bool (isLeap y))) := by
  unfold Claim; k_fill; dsimp only [CbRet]; intros; rename_i hret
  refine wpAny_call ?_
  (k_dflt cell_enter)
  k_with_none
  k_steps
  all_goals (refine cb_retB hret ?_ (by k_asm) (by k_asm))
  all_goals (simp only [isLeap]; simp_all)
def monthLen (y m : Int) : Int := if m = 2 then (if isLeap y then 29 else 28) else if m = 4 ∨ m = 6 ∨ m = 9 ∨ m = 11 then 30 else 31
theorem monthLen_a {y m : Int} (h : m ≠ 2) (e : ([4, 6, 9, 11].any fun x => x == m) = true) : monthLen y m = 30 := by
  simp only [List.any_cons, List.any_nil, Bool.or_false, Bool.or_eq_true, beq_iff_eq] at e
  unfold monthLen; rw [if_neg h, if_pos (by omega)]
theorem monthLen_b {y m : Int} (h : m ≠ 2) (e : ([4, 6, 9, 11].any fun x => x == m) = false) : monthLen y m = 31 := by
  simp only [List.any_cons, List.any_nil, Bool.or_false, Bool.or_eq_false_iff, beq_eq_false_iff_ne] at e
  unfold monthLen; rw [if_neg h, if_neg (by omega)]
theorem c_month_length (w : World) (mean mg mb) (news) (y m : Int) (t u : Tok) : Claim w mean mg mb 2 88 news [.int y t, .int m u] True (fun _ h₀ L mm s Q => CbRet h₀ L mm news s Q (fun tt => .int (monthLen y m) tt)) := by
  unfold Claim; k_fill; dsimp only [CbRet]; intros; rename_i hret
  refine wpAny_call ?_
  (k_dflt cell_enter)
  k_with_none
  (k_with "own call ref" => (k_here; (with_reducible show wpAny _ _ (call (Value.ref 81) _) _ _ _); k_dflt (refine' Claim.use (c_is_leap _ _ _ _ _ _ _) ?_ ?_; (next => first | exact True.intro | assumption | omega)); ((dsimp only [CbRet]); intro t9 h9 tk9 F9 N9; (try dsimp only); (try k_fold))))
  k_steps
  all_goals (refine cb_retI hret ?_ (by k_asm) (by first | k_asm | (refine cb_drop (by assumption) ?_; intro p hp; exact List.mem_cons_of_mem _ hp)))
  all_goals first
    | exact (monthLen_a (by assumption) (by assumption)).symm
    | exact (monthLen_b (by assumption) (by assumption)).symm
    | (simp only [monthLen]; simp_all)
def isDay (y m d : Int) : Bool := decide (1 ≤ y) && decide (y ≤ 9999) && (decide (1 ≤ m) && decide (m ≤ 12)) && (decide (1 ≤ d) && decide (d ≤ monthLen y m))
theorem c_is_day (w : World) (mean mg mb) (news) (y m d : Int) (t u v : Tok) : Claim w mean mg mb 3 95 news [.int y t, .int m u, .int d v] True (fun _ h₀ L mm s Q => CbRet h₀ L mm news s Q (fun _ => .bool (isDay y m d))) := by
  unfold Claim; k_fill; dsimp only [CbRet]; intros; rename_i hret
  refine wpAny_call ?_
  (k_dflt cell_enter)
  k_with_none
  (k_with "own call ref" => (k_here; (with_reducible show wpAny _ _ (call (Value.ref 81) _) _ _ _); k_dflt (refine' Claim.use (c_is_leap _ _ _ _ _ _ _) ?_ ?_; (next => first | exact True.intro | assumption | omega)); ((dsimp only [CbRet]); intro t9 h9 tk9 F9 N9; (try dsimp only); (try k_fold))))
  (k_with "own call ref" => (k_here; (with_reducible show wpAny _ _ (call (Value.ref 88) _) _ _ _); k_dflt (refine' Claim.use (c_month_length _ _ _ _ _ _ _ _ _) ?_ ?_; (next => first | exact True.intro | assumption | omega)); ((dsimp only [CbRet]); intro t9 h9 tk9 F9 N9; (try dsimp only); (try k_fold))))
  k_steps
  all_goals (refine cb_retB hret ?_ (by k_asm) (by k_asm))
  all_goals (rw [Bool.eq_iff_iff]; simp only [isDay, Bool.and_eq_true, decide_eq_true_eq]; omega)
end
section
section
variable {prog : Program} {w : World} {A : Around} {E : Value → Shared → Prop} {s : Shared}
theorem eq_nil_list {l b : Addr} {ys : List Value} {items : Array Value} {Q : Value → Shared → Prop} (hl : s.heap.IsList l ys.toArray) (hb : s.heap.IsList b items) (hi : items = #[]) (hu : A.units < cLine) (h : Q (.bool ys.isEmpty) s) :
    wpAny (model prog w) A (compareOp .Eq (.ref l) (.ref b)) Q E s := by
  subst hi
  cases ys with
  | nil => exact SeqAt.eq_listAt (e := fun _ => true) hl hb rfl hu (fun j h1 _ => absurd h1 (by simp)) (by simpa using h)
  | cons y r => exact SeqAt.eq_list_lengthsAt hl hb (by simp) hu (by simpa using h)
end
def lowerCode (c : Int) : Int := if 65 ≤ c ∧ c ≤ 90 then c + 32 else c
theorem c_lower_code (w : World) (mean mg mb) (news) (c : Int) (t : Tok) : Claim w mean mg mb 1 68 news [.int c t] True (fun _ h₀ L m s Q => CbRet h₀ L m news s Q (fun tt => .int (lowerCode c) tt)) := by
  unfold Claim; k_fill; dsimp only [CbRet]; intros; rename_i hret
  refine wpAny_call ?_
  (k_dflt cell_enter)
  k_with_none
  k_steps
  all_goals (refine cb_retI hret ?_ (by k_asm) (by k_asm))
  all_goals (unfold lowerCode; split <;> omega)
def badSign (a : Str) : Bool := if (!decide (a.cps.toList < (Str.ofString "0").cps.toList)) = true then !!decide ((Str.ofString "9").cps.toList < a.cps.toList) else !false
def isFigures (x : Str) : Bool := (x != Str.ofString "") && ((signs x).filter badSign).isEmpty
theorem carried_empty {ys : List Value} {l : List PyData} (h : CarriedAll ys l) : ys.isEmpty = l.isEmpty := by
  have e := h.length_eq
  cases ys <;> cases l <;> simp_all
theorem c_is_figures (w : World) (mean mg mb) (news) (x : Str) (t : Tok) : Claim w mean mg mb 2 112 news [.str x t] (x.length ≤ 1000) (fun _ h₀ L m s Q => CbRet h₀ L m news s Q (fun _ => .bool (isFigures x))) := by
  unfold Claim; k_fill; dsimp only [CbRet]; intros; rename_i hret
  refine wpAny_call ?_
  (k_dflt cell_enter)
  k_with_none
  (k_with "own call ref" => (k_here; (with_reducible show wpAny _ _ (call (Value.ref 68) _) _ _ _); k_dflt (refine' Claim.use (c_lower_code _ _ _ _ _ _ _) ?_ ?_; (next => first | exact True.intro | assumption | omega)); ((dsimp only [CbRet]); intro t9 h9 tk9 F9 N9; (try dsimp only); (try k_fold))))
  (k_with "own compareOp Eq ref" => (k_here; (with_reducible show wpAny _ _ (compareOp CmpOp.Eq (Value.ref _) (Value.ref _)) _ _ _); k_dflt (refine' eq_nil_list (by exact News.isList (by k_asm) (by k_mem)) (by exact News.isList (by k_asm) (by k_mem)) (by exact rfl) (by ktr_units) ?_)))
  k_steps
  all_goals (refine cb_retB hret ?_ (by k_asm) (by first | k_asm | (refine cb_drop (by assumption) ?_; intro p hp; exact List.mem_cons_of_mem _ (List.mem_cons_of_mem _ hp))))
  · (rename CarriedAll _ _ => hc)
    have hx : (x != Str.ofString "") = true := by assumption
    unfold isFigures
    rw [hx, Bool.true_and, carried_empty hc, List.isEmpty_map]
    rfl
  · have hx : (x != Str.ofString "") = false := by assumption
    unfold isFigures
    rw [hx]
    rfl
section
open Builtin Builtin.Str
variable {prog : Program} {w : World} {A : Around} {E : Value → Shared → Prop} {s : Shared} {h₀ : Heap} {L : Addr} {m : Str → Option Value} {env : Env}
theorem str_st {x : Str} {t : Tok} {ty : String} {I : Addr} : ∀ i (h h' : Heap) (o : Obj) (nw : List (Addr × Obj)), h.IsStrIter I ty x t i → h.get? I = some o → h'.get? I = some o → (∀ b o, h₀.get? b = some o → h'.get? b = some o) → News h₀ L h' nw → True → h'.IsStrIter I ty x t i :=
  fun i h h' o nw st e e' _ _ _ => by obtain ⟨o', q, r⟩ := st; rw [e] at q; cases q; exact ⟨o, e', r⟩
def TextSrc (prog : Program) (w : World) (A : Around) (h₀ : Heap) (L : Addr) (m : Str → Option Value) (env : Env) (elt : Expr) (x : Str) (scope : Scope) (cl : List (Str × Addr)) (Q : Value → Shared → Prop) (xv : Value) (s₁ : Shared) : Prop :=
  ∃ tx t news, xv = .str tx t ∧ A.handled = none ∧ Fr h₀ L s₁.heap m ∧ News h₀ L s₁.heap news ∧ tx.cps.size ≤ sizeLine ∧
      ∀ g, LCg.CompRest prog w A h₀ L m env elt x scope cl { s₁ with heap := g } (fun _ => True) (SignAt tx) (LCg.FinE h₀ L m { s₁ with heap := g } Q) tx.cps.size 0 [] news
theorem TextSrc.intro {elt : Expr} {x : Str} {scope : Scope} {cl : List (Str × Addr)} {Q : Value → Shared → Prop} {tx : Str} {t : Tok} {s₁ : Shared} {news : List (Addr × Obj)} (hh : A.handled = none) (F : Fr h₀ L s₁.heap m) (N : News h₀ L s₁.heap news) (hsz : tx.cps.size ≤ sizeLine)
    (h : ∀ g, LCg.CompRest prog w A h₀ L m env elt x scope cl { s₁ with heap := g } (fun _ => True) (SignAt tx) (LCg.FinE h₀ L m { s₁ with heap := g } Q) tx.cps.size 0 [] news) : TextSrc prog w A h₀ L m env elt x scope cl Q (.str tx t) s₁ := ⟨tx, t, news, rfl, hh, F, N, hsz, h⟩
/-- a comprehension over a text's signs, the element any expression -/
theorem ListComp_T {elt iter : Expr} {x : Str} {px : Pos} {scope : Scope} {cl : List (Str × Addr)} {pos : Pos} {Q : Value → Shared → Prop} (_F₀ : Fr h₀ L s.heap m)
    (hclos : closureFor scope env = pure cl) (hcell : ∀ y ∈ scope.names, y.2 ≠ .cell) (hkind : scope.kind = .function)
    (hnames : ∀ y ∈ scope.names, y.2 = .local → scope.names.lookup y.1 = some .local) (hx : scope.names.lookup x = some .local)
    (h : wpAny (model prog w) A (eval iter env) (TextSrc prog w A h₀ L m env elt x scope cl Q) E s)
    (hs : ∀ x, foldedSetIterable iter env x = pure x := by intro _; rfl) :
    wpAny (model prog w) A (eval (.ListComp elt [⟨.Name x px, iter, [], 0⟩] scope pos) env) Q E s := by
  rw [eval_ListComp]
  refine wpAny_comprehension_free (use := none) rfl hs hclos hkind hnames (wpAny_mono h (fun xv s₁ h₁ => ?_) fun _ _ e => e)
  obtain ⟨tx, t, news, rfl, hh, F, N, hsz, R⟩ := h₁
  cases ha : tx.cps.all (· < 128)
  · refine wpAny_pyIter_wide ha ?_
    refine LCg.block_U (Walks.strWide hh _ tx t) hsz (fun i h st => by obtain ⟨o, e, _⟩ := st; exact ⟨o, e⟩) str_st hcell hkind hx ⟨_, Heap.get?_push_size _ rfl, rfl, rfl⟩ (fun b hb => ?_)
      (F.keeps fun _ _ e => Heap.get?_push_of_some _ e) (N.grown fun _ _ e => Heap.get?_push_of_some _ e) (Nat.ne_of_lt F.ns.lt) (next_is_new F) (fun p hp => Nat.ne_of_lt (Heap.lt_size (N p hp).1)) trivial (R _) ?_
    · rw [List.mem_singleton.mp hb]
      show s₁.heap.objs.size < (s₁.heap.push _).objs.size
      rw [Heap.size_push]; exact Nat.lt_succ_self _
    · intro D C h tk m' ys news' F' N' o1 hn hC₀ hD₀ hCL hDL hCD offC fin
      refine ⟨m', hn, fun h'' hs'' => fin D h'' tk (F'.change hs'' hCL hC₀) (fun p hp => ?_) o1⟩
      refine ⟨hs''.extBut _ _ ?_ (N' p hp).1, (N' p hp).2⟩
      rcases List.mem_cons.mp hp with rfl | hp
      · exact Ne.symm hCD
      · exact offC p hp
  · refine wpAny_pyIter_ascii ha ?_
    refine LCg.block_U (Walks.strAscii hh _ tx t) hsz (fun i h st => by obtain ⟨o, e, _⟩ := st; exact ⟨o, e⟩) str_st hcell hkind hx ⟨_, Heap.get?_push_size _ rfl, rfl, rfl⟩ (fun b hb => ?_)
      (F.keeps fun _ _ e => Heap.get?_push_of_some _ e) (N.grown fun _ _ e => Heap.get?_push_of_some _ e) (Nat.ne_of_lt F.ns.lt) (next_is_new F) (fun p hp => Nat.ne_of_lt (Heap.lt_size (N p hp).1)) trivial (R _) ?_
    · rw [List.mem_singleton.mp hb]
      show s₁.heap.objs.size < (s₁.heap.push _).objs.size
      rw [Heap.size_push]; exact Nat.lt_succ_self _
    · intro D C h tk m' ys news' F' N' o1 hn hC₀ hD₀ hCL hDL hCD offC fin
      refine ⟨m', hn, fun h'' hs'' => fin D h'' tk (F'.change hs'' hCL hC₀) (fun p hp => ?_) o1⟩
      refine ⟨hs''.extBut _ _ ?_ (N' p hp).1, (N' p hp).2⟩
      rcases List.mem_cons.mp hp with rfl | hp
      · exact Ne.symm hCD
      · exact offC p hp
/-- its turns: each sign by a function of its code -/
theorem text_rest {elt : Expr} {x : Str} {scope : Scope} {cl : List (Str × Addr)} {S : List (Addr × Obj) → Prop} {Fin : List Value → List (Addr × Obj) → Prop} {news : List (Addr × Obj)} {tx : Str} (g : Nat → Str)
    (turn : ∀ c t I oI C oC D m₂ ys h tk (E' : Value → Shared → Prop), c ∈ tx.cps.toList → LCg.NsObj oC m₂ → m₂ x = some (.str ⟨#[c]⟩ t) → Fr h₀ L h m → News h₀ L h ((I, oI) :: (C, oC) :: (D, LCg.lst ys) :: news) → LCg.Off3 I C D news → ((@Ne Nat I C) ∧ (@Ne Nat I D) ∧ (@Ne Nat C D)) →
      wpAny (model prog w) A (eval elt (compEnvC scope cl C env)) (LCg.CompEnd h₀ L m { s with heap := h, toks := tk } I oI C oC D (LCg.lst ys) S (fun y news' => KCtEl news (g c) y news')) E' { s with heap := h, toks := tk })
    (fin : ∀ ys, StrsAre ys (tx.cps.toList.map g) → Fin ys news) : LCg.CompRest prog w A h₀ L m env elt x scope cl s S (SignAt tx) Fin tx.cps.size 0 [] news := by
  have key : ∀ (j i : Nat) (ys : List Value), i + j = tx.cps.size → StrsAre ys ((tx.cps.toList.take i).map g) → LCg.CompRest prog w A h₀ L m env elt x scope cl s S (SignAt tx) Fin j i ys news := by
    intro j
    induction j with
    | zero =>
      intro i ys hi hy
      have e : i = tx.cps.toList.length := by rw [Array.length_toList]; omega
      subst e
      rw [List.take_length] at hy
      exact LCg.CompRest.zero (fin ys hy)
    | succ j ih =>
      intro i ys hi hy
      refine LCg.CompRest.succ ?_
      intro v I oI C oC D m₂ h tk E' hv hC hx F N off ne
      obtain ⟨c, t, hk, hv'⟩ := hv
      rw [hv'] at hx
      have hk' : tx.cps.toList[i]? = some c := by rw [Array.getElem?_toList]; exact hk
      refine wpAny_mono (turn c t I oI C oC D m₂ ys h tk E' (List.mem_of_getElem? hk') hC hx F N off ne) (fun y s₂ hq => ?_) fun _ _ e => e
      obtain ⟨h', tk', nw, e, F', N', off', hS, hn, t', hy'⟩ := hq
      rw [hn] at N' off' hS
      refine ⟨h', tk', news, e, F', N', off', hS, ?_⟩
      rw [hy']
      refine ih (i + 1) _ (by omega) ?_
      rw [List.take_add_one, hk']
      simpa using kct_snoc hy
  exact key tx.cps.size 0 [] (by omega) (by simp only [List.take_zero, List.map_nil]; exact .nil)
end
def lowerSign (c : Nat) : Str := ⟨#[(lowerCode c).toNat]⟩
def lowerText (x : Str) : Str := Txt.join (Str.ofString "") (x.cps.toList.map lowerSign)
theorem lowerCode_lo {c : Nat} : 0 ≤ lowerCode c := by unfold lowerCode; split <;> omega
theorem lowerCode_hi {c : Nat} (h : c < 1000) : lowerCode c ≤ 1114111 := by unfold lowerCode; split <;> omega
theorem small_of {l : List Nat} {c : Nat} (h : ∀ c ∈ l, c < 1000) (hc : c ∈ l) : c < 1000 := h c hc
theorem sum_ones (l : List Nat) : ((l.map lowerSign).map (·.length)).sum = l.length := by
  induction l with
  | nil => rfl
  | cons a r ih => simp only [List.map_cons, List.sum_cons, ih, List.length_cons]; show 1 + _ = _; omega
theorem join_room {x : Str} (h : x.length ≤ 1000) : (((x.cps.toList.map lowerSign).map (·.length)).sum + (x.cps.toList.map lowerSign).length * (Str.ofString "").length ≤ 16777216) := by
  rw [sum_ones, List.length_map, Array.length_toList]
  have : (Str.ofString "").length = 0 := by decide
  rw [this]
  have : x.cps.size ≤ 1000 := h
  omega
section
theorem c_lower_text (w : World) (mean mg mb) (news) (x : Str) (t : Tok) : Claim w mean mg mb 3 73 news [.str x t] (x.length ≤ 1000 ∧ ∀ c ∈ x.cps.toList, c < 1000) (fun _ h₀ L m s Q => CbRet h₀ L m news s Q (fun tt => .str (lowerText x) tt)) := by
  unfold Claim; k_fill; dsimp only [CbRet]; intros; rename_i hret
  (rename _ ∧ _ => hpre)
  obtain ⟨hlen, hcps⟩ := hpre
  refine wpAny_call ?_
  (k_dflt cell_enter)
  k_with_none
  (k_with "own call ref" => (k_here; (with_reducible show wpAny _ _ (call (Value.ref 68) _) _ _ _); k_dflt (refine' Claim.use (c_lower_code _ _ _ _ _ _ _) ?_ ?_; (next => first | exact True.intro | assumption | omega)); ((dsimp only [CbRet]); intro t9 h9 tk9 F9 N9; (try dsimp only); (try k_fold))))
  (k_with "own compareOp Eq ref" => (k_here; (with_reducible show wpAny _ _ (compareOp CmpOp.Eq (Value.ref _) (Value.ref _)) _ _ _); k_dflt (refine' eq_nil_list (by exact News.isList (by k_asm) (by k_mem)) (by exact News.isList (by k_asm) (by k_mem)) (by exact rfl) (by ktr_units) ?_)))
  (k_with "own eval ListComp" => (k_here; k_dflt (refine ListComp_T (_F₀ := by k_asm) (by rfl) (by decide) (by rfl) (by decide) (by rfl) ?_)))
  (k_with "own TextSrc" => (k_here; k_dflt (refine TextSrc.intro (by rfl) (by k_asm) (by k_asm) (by rw [sizeLine_eq]; exact Nat.le_trans (by assumption : _ ≤ 1000) (by decide)) ?_; intro g'; (refine text_rest lowerSign (fun c' t' I' oI' C' oC' D' m' ys' h' tk' E' hc' hC' hx' F' N' off' ne' => ?_) (fun ys' hys' => ?_)); all_goals (try (have hb9 := small_of (by assumption) hc')))))
  (k_with "own call builtin:ord" => (k_here; k_dflt (refine PyProof.Rows.P.ord_of_char ?_)))
  (k_with "own call builtin:chr" => (k_here; k_dflt (refine chr_of_range lowerCode_lo (lowerCode_hi (by assumption)) ?_)))
  (k_with "own CompEnd" => (k_here; k_dflt (refine LCg.CompEnd.intro (by assumption) (by assumption) _ (fun p hp => hp) (by assumption) True.intro ?_)))
  (k_with "own KCtEl" => (exact kct_el rfl rfl rfl))
  (k_with "own call builtin:str.join" => (k_here; k_dflt (refine join_list (News.isList (by k_asm) (by k_mem)) (by assumption) (join_room (by assumption)) ?_; intro t' k')))
  k_steps
  all_goals (refine cb_retS hret ?_ (by k_asm) (by first | k_asm | (refine cb_drop (by assumption) ?_; intro p hp; exact List.mem_cons_of_mem _ hp)))
  rfl
end
end
section
section
variable {prog : Program} {w : World} {A : Around} {E : Value → Shared → Prop} {s : Shared} {h₀ : Heap} {L : Addr} {m : Str → Option Value} {env : Env}
theorem isTuple_of {h : Heap} {a : Addr} {items : Array Value} (x : IsTup h a items) : h.IsTuple a items := x
theorem isTuple_keeps {h h' : Heap} {a : Addr} {items : Array Value} (x : h.IsTuple a items) (k : ∀ b o, h.get? b = some o → h'.get? b = some o) : h'.IsTuple a items := let ⟨o, ho, r⟩ := x; ⟨o, k _ _ ho, r⟩
theorem tup_st {ax I : Addr} {its : Array Value} (ht : h₀.IsTuple ax its) : ∀ i (h h' : Heap) (o : Obj) (nw : List (Addr × Obj)), (h.IsTupleIter I ax i ∧ h.IsTuple ax its) → h.get? I = some o → h'.get? I = some o → (∀ b o, h₀.get? b = some o → h'.get? b = some o) → News h₀ L h' nw → True → (h'.IsTupleIter I ax i ∧ h'.IsTuple ax its) :=
  fun i h h' o nw st e e' k _ _ => ⟨st.1.at fun o2 e2 => by rw [e] at e2; cases e2; exact e', isTuple_keeps ht k⟩
def TupSrc (prog : Program) (w : World) (A : Around) (h₀ : Heap) (L : Addr) (m : Str → Option Value) (env : Env) (elt : Expr) (x : Str) (scope : Scope) (cl : List (Str × Addr)) (Fin : Shared → List Value → List (Addr × Obj) → Prop) (xv : Value) (s₁ : Shared) : Prop :=
  ∃ ax its news, xv = .ref ax ∧ A.handled = none ∧ Fr h₀ L s₁.heap m ∧ News h₀ L s₁.heap news ∧ h₀.IsTuple ax its ∧ its.size ≤ sizeLine ∧
      ∀ g, LCg.CompRest prog w A h₀ L m env elt x scope cl { s₁ with heap := g } (fun _ => True) (fun i v => its[i]? = some v) (Fin { s₁ with heap := g }) its.size 0 [] news
theorem TupSrc.intro {elt : Expr} {x : Str} {scope : Scope} {cl : List (Str × Addr)} {Fin : Shared → List Value → List (Addr × Obj) → Prop} {ax : Addr} {its : Array Value} {s₁ : Shared} {news : List (Addr × Obj)} (hh : A.handled = none) (F : Fr h₀ L s₁.heap m) (N : News h₀ L s₁.heap news) (ht : IsTup h₀ ax its) (hsz : its.size ≤ sizeLine)
    (h : ∀ g, LCg.CompRest prog w A h₀ L m env elt x scope cl { s₁ with heap := g } (fun _ => True) (fun i v => its[i]? = some v) (Fin { s₁ with heap := g }) its.size 0 [] news) : TupSrc prog w A h₀ L m env elt x scope cl Fin (.ref ax) s₁ := ⟨ax, its, news, rfl, hh, F, N, isTuple_of ht, hsz, h⟩
/-- a name given a comprehension over a tuple of the ground -/
theorem Assign_ListComp_V {elt iter : Expr} {x y : Str} {px py : Pos} {scope : Scope} {cl : List (Str × Addr)} {pos spos : Pos} {Q : Flow → Shared → Prop} (_F₀ : Fr h₀ L s.heap m) (hLe : env.locals = L)
    (hsw : swapsWith (.ListComp elt [⟨.Name x px, iter, [], 0⟩] scope pos) (some (.Name y py)) spos.line env = pure true)
    (hclos : closureFor scope env = pure cl) (hcell : ∀ z ∈ scope.names, z.2 ≠ .cell) (hkind : scope.kind = .function)
    (hnames : ∀ z ∈ scope.names, z.2 = .local → scope.names.lookup z.1 = some .local) (hx : scope.names.lookup x = some .local)
    (hy : env.kindOf y = some .local) (hp : (env.scope.kind == .class || (env.scope.kind == .module && env.locals != env.globals)) = false)
    (h : wpAny (model prog w) A (eval iter env) (TupSrc prog w A h₀ L m env elt x scope cl (fun s₂ => LCg.FinA h₀ L m s₂ y Q)) E s)
    (hs : ∀ x, foldedSetIterable iter env x = pure x := by intro _; rfl) :
    wpAny (model prog w) A (exec (.Assign [.Name y py] (.ListComp elt [⟨.Name x px, iter, [], 0⟩] scope pos) spos) env) Q E s := by
  subst hLe
  rw [exec_Assign_Name_used _ _ _ _ hsw]
  refine wpAny_bind (wpAny_standAt (wpAny_bind ?_))
  show wpAny _ A (do let _ ← comprehension (.ListComp elt [⟨.Name x px, iter, [], 0⟩] scope pos) scope env _ (newList []) false (eval iter env) (some (assign (.Name y py) env))) _ _ s
  refine wpAny_bind (wpAny_mono (wpAny_comprehension_free (use := some (assign (.Name y py) env)) (Q := fun _ s' => Q .next s') rfl hs hclos hkind hnames
    (wpAny_mono h (fun xv s₁ h₁ => ?_) fun _ _ e => e)) (fun _ s' hq => wpAny_pure (wpAny_pure hq)) fun _ _ e => e)
  obtain ⟨ax, its, news, rfl, hh, F, N, ht, hsz, R⟩ := h₁
  have hl := isTuple_keeps ht F.keep
  have hlt : ax < s₁.heap.objs.size := by obtain ⟨_, e, _⟩ := hl; exact Heap.lt_size e
  refine wpAny_pyIter_tuple hl ?_
  have up : ∀ b o, s₁.heap.get? b = some o → (s₁.heap.push { cls := .type "tuple_iterator", data := .fields #[.ref ax, .int 0 0] }).get? b = some o := fun b o e => Heap.get?_push_of_some _ e
  refine LCg.block_U (Walks.tuple hh s₁.heap.objs.size ax (Nat.ne_of_lt hlt) its) hsz (fun i h st => by obtain ⟨o, e, _⟩ := st.1; exact ⟨o, e⟩) (tup_st ht) hcell hkind hx ⟨⟨_, Heap.get?_push_size _ rfl, rfl, rfl⟩, isTuple_keeps hl up⟩ (fun b hb => ?_)
    (F.keeps up) (N.grown up) (Nat.ne_of_lt F.ns.lt) (next_is_new F) (fun p hp => Nat.ne_of_lt (Heap.lt_size (N p hp).1)) trivial (R _) ?_
  · show b < (s₁.heap.push _).objs.size
    rw [Heap.size_push]
    rcases List.mem_cons.mp hb with rfl | hb
    · exact Nat.lt_succ_self _
    · rw [List.mem_singleton.mp hb]; exact Nat.lt_succ_of_lt hlt
  · intro D C h' tk m' ys news' F' N' o1 hn hC₀ hD₀ hCL hDL hCD offC fin
    show wpAny _ A (assign (.Name y py) env (.ref D)) _ _ _
    refine wpAny_assign_Name (wpAny_storeName_local hy F'.ns (fun h₂ hn₂ hs₂ => ?_) hp)
    have hL₀ : h₀.get? env.locals = none := Heap.get?_none_of_le F'.above
    have F₂ : Fr h₀ env.locals h₂ (fun z => if z = y then some (.ref D) else m z) := ⟨hn₂, fun b o e => hs₂.extBut b o (fun q => by rw [q, hL₀] at e; cases e) (F'.keep b o e), F'.above⟩
    refine ⟨m', hn.sameBut hs₂ hCL, fun h'' hs'' => fin D h'' _ (F₂.change hs'' hCL hC₀) (fun p hp => ?_) o1⟩
    have z : h₂.get? p.1 = some p.2 := hs₂.extBut _ _ (N' p hp).2.1 (N' p hp).1
    refine ⟨hs''.extBut _ _ ?_ z, (N' p hp).2⟩
    rcases List.mem_cons.mp hp with rfl | hp
    · exact Ne.symm hCD
    · exact offC p hp
theorem strs_at : ∀ {vs : List Value} {ns : List Str}, StrsAre vs ns → ∀ (i : Nat) (v : Value), vs[i]? = some v → ∃ y t, ns[i]? = some y ∧ v = .str y t
  | _, _, .nil, i, v, h => by simp at h
  | _, _, .cons y t r, 0, v, h => by simp at h; exact ⟨y, t, by simp, h.symm⟩
  | _, _, .cons y t r, i + 1, v, h => by
    obtain ⟨y', t', a, b⟩ := strs_at r i v (by simpa using h)
    exact ⟨y', t', by simpa using a, b⟩
/-- its turns over written texts: each by a function of the text -/
theorem strs_rest {elt : Expr} {x : Str} {scope : Scope} {cl : List (Str × Addr)} {S : List (Addr × Obj) → Prop} {Fin : List Value → List (Addr × Obj) → Prop} {news : List (Addr × Obj)} {its : Array Value} {ns : List Str} (g : Str → Str) (hi : StrsAre its.toList ns)
    (turn : ∀ c t I oI C oC D m₂ ys h tk (E' : Value → Shared → Prop), c ∈ ns → LCg.NsObj oC m₂ → m₂ x = some (.str c t) → Fr h₀ L h m → News h₀ L h ((I, oI) :: (C, oC) :: (D, LCg.lst ys) :: news) → LCg.Off3 I C D news → ((@Ne Nat I C) ∧ (@Ne Nat I D) ∧ (@Ne Nat C D)) →
      wpAny (model prog w) A (eval elt (compEnvC scope cl C env)) (LCg.CompEnd h₀ L m { s with heap := h, toks := tk } I oI C oC D (LCg.lst ys) S (fun y news' => KCtEl news (g c) y news')) E' { s with heap := h, toks := tk })
    (fin : ∀ ys, StrsAre ys (ns.map g) → Fin ys news) : LCg.CompRest prog w A h₀ L m env elt x scope cl s S (fun i v => its[i]? = some v) Fin its.size 0 [] news := by
  have hlen : its.size = ns.length := by rw [← Array.length_toList]; exact hi.length
  have key : ∀ (j i : Nat) (ys : List Value), i + j = its.size → StrsAre ys ((ns.take i).map g) → LCg.CompRest prog w A h₀ L m env elt x scope cl s S (fun i v => its[i]? = some v) Fin j i ys news := by
    intro j
    induction j with
    | zero =>
      intro i ys hi' hy
      have e : i = ns.length := by omega
      subst e
      rw [List.take_length] at hy
      exact LCg.CompRest.zero (fin ys hy)
    | succ j ih =>
      intro i ys hi' hy
      refine LCg.CompRest.succ ?_
      intro v I oI C oC D m₂ h tk E' hv hC hx F N off ne
      obtain ⟨c, t, hk, hv'⟩ := strs_at hi i v (by rw [Array.getElem?_toList]; exact hv)
      rw [hv'] at hx
      refine wpAny_mono (turn c t I oI C oC D m₂ ys h tk E' (List.mem_of_getElem? hk) hC hx F N off ne) (fun y s₂ hq => ?_) fun _ _ e => e
      obtain ⟨h', tk', nw, e, F', N', off', hS, hn, t', hy'⟩ := hq
      rw [hn] at N' off' hS
      refine ⟨h', tk', news, e, F', N', off', hS, ?_⟩
      rw [hy']
      refine ih (i + 1) _ (by omega) ?_
      rw [List.take_add_one, hk]
      simpa using kct_snoc hy
  exact key its.size 0 [] (by omega) (by simp only [List.take_zero, List.map_nil]; exact .nil)
theorem isStrOf_at (k : Str) : ∀ {vs : List Value} {ns : List Str}, StrsAre vs ns → ∀ (j : Nat) (h1 : j < vs.length) (h2 : j < ns.length), isStrOf k vs[j] = (ns[j] == k)
  | _, _, .cons n t _, 0, _, _ => rfl
  | _, _, .cons n t r, j + 1, h1, h2 => isStrOf_at k r j (Nat.lt_of_succ_lt_succ h1) (Nat.lt_of_succ_lt_succ h2)
theorem ne_of_lt_idxOf' {k : Str} {ns : List Str} {j : Nat} (h : j < ns.idxOf k) (h2 : j < ns.length) : (ns[j] == k) = false := by
  have := List.not_of_lt_findIdx h
  simpa using this
theorem index_list_strs {l : Addr} {vs : List Value} {ns : List Str} {k : Str} {t : Tok} {Q : Value → Shared → Prop} (hl : s.heap.IsList l vs.toArray) (hi : StrsAre vs ns)
    (hfit : ns.length < 1000) (hk : ns.any (· == k) = true) (h : Q (.int (ns.idxOf k : Nat) s.toks) { s with toks := s.toks + 1 }) :
    wpAny (model prog w) A (call (.builtin "list.index") [.ref l, .str k t]) Q E s := by
  obtain ⟨⟨cls, dd, data, sl⟩, ho, hc, n, hd⟩ := id hl
  simp only at hc hd
  subst hc hd
  have hlen := hi.length
  have hk' : k ∈ ns := by
    obtain ⟨y, hy, e⟩ := List.any_eq_true.mp hk
    exact (beq_iff_eq.mp e) ▸ hy
  have hj : ns.idxOf k < ns.length := List.idxOf_lt_length_iff.mpr hk'
  refine call_meets PySem.F.slot_list_index ⟨_, ho, rfl⟩ PySem.F.entry_list_index (PySem.F.args_list_index_2 _ _)
    (SeqAt.list_indexAt l vs.toArray n dd sl (.str k t) (isStrOf k) (ns.idxOf k) (by simpa [hlen] using hj) (by omega) ?_ ?_) ⟨ho, fun y hy => (eq_isStrOf k t hi y (by simpa using hy)).at _ _, h⟩
  · show isStrOf k vs[ns.idxOf k] = true
    rw [isStrOf_at k hi _ (by omega) hj]
    simpa using List.getElem_idxOf hj
  · intro j hjs hlt
    show isStrOf k vs[j] = false
    rw [isStrOf_at k hi j (by simpa using hjs) (by omega)]
    exact ne_of_lt_idxOf' hlt _
end
def months : List Str := [Str.ofString "Jan", Str.ofString "Feb", Str.ofString "Mar", Str.ofString "Apr", Str.ofString "May", Str.ofString "Jun", Str.ofString "Jul", Str.ofString "Aug", Str.ofString "Sep", Str.ofString "Oct", Str.ofString "Nov", Str.ofString "Dec"]
theorem months_ok : ∀ c ∈ months, c.length ≤ 1000 ∧ ∀ a ∈ c.cps.toList, a < 1000 := by decide +kernel
def lowMonths : List Str := months.map lowerText
theorem lowMonths_len : lowMonths.length < 1000 := by decide
def monthNo (x : Str) : Int := if lowMonths.any (· == lowerText x) = true then (lowMonths.idxOf (lowerText x) : Int) + 1 else 0
section
theorem c_month_number (w : World) (mean mg mb) (news) (x : Str) (t : Tok) : Claim w mean mg mb 4 100 news [.str x t] (x.length ≤ 1000 ∧ ∀ c ∈ x.cps.toList, c < 1000) (fun _ h₀ L m s Q => CbRet h₀ L m news s Q (fun tt => .int (monthNo x) tt)) := by
  unfold Claim; k_fill; dsimp only [CbRet]; intros; rename_i hret
  refine wpAny_call ?_
  (k_dflt cell_enter)
  k_with_none
  (k_with "own call ref" => (k_here; (with_reducible show wpAny _ _ (call (Value.ref 73) _) _ _ _); k_dflt (refine' Claim.use (c_lower_text _ _ _ _ _ _ _) ?_ ?_; (next => first | exact True.intro | assumption | omega)); ((dsimp only [CbRet]); intro t9 h9 tk9 F9 N9; (try dsimp only); (try k_fold))))
  (k_with "own exec Assign cons ListComp" => (k_here; k_dflt (refine Assign_ListComp_V (_F₀ := by k_asm) (by rfl) (by with_unfolding_all rfl) (by rfl) (by decide) (by rfl) (by decide) (by rfl) (by rfl) (by rfl) ?_)))
  (k_with "own TupSrc" => (k_here; k_dflt (refine' TupSrc.intro (by exact rfl) (by k_asm) (by k_asm) (tupK (by k_asm) (by k_is)) (by exact Nat.le_of_ble_eq_true rfl) ?_; intro g'; (refine strs_rest (ns := months) lowerText (by repeat (first | exact StrsAre.nil | refine StrsAre.cons _ _ ?_)) (fun c' t' I' oI' C' oC' D' m' ys' h' tk' E' hc' hC' hx' F' N' off' ne' => ?_) (fun ys' hys' => ?_)); all_goals (first | (have hb9 := months_ok _ hc') | (replace hys' : StrsAre ys' lowMonths := hys')))))
  (k_with "own CompEnd" => (k_here; k_dflt (refine LCg.CompEnd.intro (by assumption) (by assumption) _ (fun p hp => hp) (by assumption) True.intro ?_)))
  (k_with "own KCtEl" => (exact kct_el rfl rfl rfl))
  (k_with "own compareOp In str ref" => (k_here; k_dflt (refine' in_list_strs (by exact News.isList (by k_asm) (by k_mem)) (by k_asm) ?_)))
  (k_with "own call builtin:list.index" => (k_here; k_dflt (refine' index_list_strs (by exact News.isList (by k_asm) (by k_mem)) (by k_asm) (by exact lowMonths_len) (by assumption) ?_)))
  k_steps
  all_goals (refine cb_retI hret ?_ (by k_asm) (by refine cb_drop (by assumption) ?_; intro p hp; exact List.mem_cons_of_mem _ hp))
  · have ha : (lowMonths.any (· == lowerText x)) = true := by assumption
    unfold monthNo
    rw [if_pos ha]
  · have ha : (lowMonths.any (· == lowerText x)) = false := by assumption
    unfold monthNo
    rw [ha]
    rfl
end
end
section
def padText (n k : Int) : Str := Txt.mul (Str.ofString "0") (k - ((Str.ofString (toString n)).length : Int)) ++ Str.ofString (toString n)
theorem c_padded (w : World) (mean mg mb) (news) (n k : Int) (t u : Tok) : Claim w mean mg mb 1 107 news [.int n t, .int k u] (0 ≤ n ∧ n ≤ 9999 ∧ 0 ≤ k ∧ k ≤ 10) (fun _ h₀ L m s Q => CbRet h₀ L m news s Q (fun tt => .str (padText n k) tt)) := by
  unfold Claim; k_fill; dsimp only [CbRet]; intros; rename_i hret
  (rename _ ∧ _ => hpre)
  obtain ⟨hn0, hn1, hk0, hk1⟩ := hpre
  refine wpAny_call ?_
  (k_dflt cell_enter)
  k_with_none
  k_steps
  all_goals (refine cb_retS hret ?_ (by k_asm) (by k_asm))
  rfl
theorem intText_len {n : Int} (h0 : 0 ≤ n) (h1 : n ≤ 9999) : (Str.ofString (toString n)).length ≤ 5 := by
  rw [PySem.ofString_length]
  have := int_text_length_le10 (a := n) (k := 4) (by decide) (by omega)
  exact this
theorem padText_len {n : Int} (h0 : 0 ≤ n) (h1 : n ≤ 9999) : (padText n 4).length ≤ 20 := by
  have := intText_len h0 h1
  have e := len_mul_k1 (x := Str.ofString "0") (n := 4 - ((Str.ofString (toString n)).length : Int)) (by decide)
  unfold padText
  rw [Str.length_append]
  split at e <;> omega
theorem dash_len : (Str.ofString "-").length = 1 := by decide
theorem months_len : ∀ i : Nat, (months.getD i Str.empty).length ≤ 3 := by
  intro i
  by_cases h : i < 12
  · have : ∀ j, j < 12 → (months.getD j Str.empty).length ≤ 3 := by decide +kernel
    exact this i h
  · rw [List.getD_eq_getElem?_getD, List.getElem?_eq_none (by show months.length ≤ i; have : months.length = 12 := rfl; omega)]
    decide
def dayText (y m d : Int) : Str := Str.ofString (toString d) ++ Str.ofString "-" ++ months.getD (m - 1).toNat Str.empty ++ Str.ofString "-" ++ padText y 4
section
variable {prog : Program} {w : World} {A : Around} {E : Value → Shared → Prop} {s : Shared} {value slice : Expr} {i : Int} {u : Tok} {Q : Value → Shared → Prop}
theorem month_item {l : Addr} {vs : List Value} (ht : IsTup s.heap l vs.toArray) (hw : StrsAre vs months) (h0 : 0 ≤ i) (h1 : i < 12)
    (h : ∀ t', (months.getD i.toNat Str.empty).length ≤ 3 → Q (.str (months.getD i.toNat Str.empty) t') s)
    (hs : subscripted slice false (.ref l) (.int i u) = operate [.ref l, .int i u] (getItem (.ref l) (.int i u)) := by with_unfolding_all rfl) :
    wpAny (model prog w) A (subscriptTail value slice (.ref l) (.int i u)) Q E s :=
  KTb.item_tup ht hw h0 (by show i < (12 : Int); exact h1) (by omega) (fun t' _ => h t' (months_len _)) hs
end
section
theorem c_day_text (w : World) (mean mg mb) (news) (y m d : Int) (t u v : Tok) : Claim w mean mg mb 2 119 news [.int y t, .int m u, .int d v] (0 ≤ y ∧ y ≤ 9999 ∧ 1 ≤ m ∧ m ≤ 12 ∧ 0 ≤ d ∧ d ≤ 99) (fun _ h₀ L mm s Q => CbRet h₀ L mm news s Q (fun tt => .str (dayText y m d) tt)) := by
  unfold Claim; k_fill; dsimp only [CbRet]; intros; rename_i hret
  (rename _ ∧ _ => hpre)
  obtain ⟨hy0, hy1, hm0, hm1, hd0, hd1⟩ := hpre
  have hT := intText_len hd0 (by omega : d ≤ 9999)
  have hP := padText_len hy0 hy1
  have hpp : (0 : Int) ≤ y ∧ y ≤ 9999 ∧ (0 : Int) ≤ 4 ∧ (4 : Int) ≤ 10 := ⟨hy0, hy1, by decide, by decide⟩
  refine wpAny_call ?_
  (k_dflt cell_enter)
  k_with_none
  (k_with "own call ref" => (k_here; (with_reducible show wpAny _ _ (call (Value.ref 107) _) _ _ _); k_dflt (refine' Claim.use (c_padded _ _ _ _ _ _ _ _ _) ?_ ?_; (next => first | exact True.intro | assumption | omega)); ((dsimp only [CbRet]); intro t9 h9 tk9 F9 N9; (try dsimp only); (try k_fold))))
  (k_with "own subscriptTail" => (k_here; (with_reducible show wpAny _ _ (subscriptTail _ _ (Value.ref 74) (Value.int _ _)) _ _ _); k_dflt (refine' month_item (tupK (by exact Frag.In.keeps (by k_asm) (Fr.keep (by k_asm))) (by k_is)) (by (repeat (first | exact StrsAre.nil | refine StrsAre.cons _ _ ?_))) (by omega) (by omega) ?_ (by with_unfolding_all rfl)); intro t' hM'))
  (k_with "own binaryOp Add str str" => (k_here; k_dflt (refine' add_str ?_ (by (rw [sizeLine_eq]; simp only [Str.length_append, dash_len]; omega)); intro t' k')))
  k_steps
  all_goals (refine cb_retS hret ?_ (by k_asm) (by k_asm))
  rfl
end
end
section
abbrev excObj (C : Addr) (t : Addr) (d : Option Addr) : Obj := { cls := .ref C, dict := d, data := .fields #[.ref t, .none, .none, .none, .bool false, .none] }
abbrev tupObj (vs : List Value) : Obj := { cls := .type "tuple", data := .seq vs.toArray }
theorem meta_exc : typeOf (.type "Exception") = pure (.type "type") := by first | rfl | kernel_rfl
section
open Builtin Builtin.BaseException Builtin.ObjectAttr
variable {prog : Program} {w : World} {A : Around} {E : Value → Shared → Prop} {h : Heap} {g : Array GenState} {d : Drawn} {t : Nat} {os : OsState}
variable {nm q : Str} {C N : Addr} {bs bm bmB : List Value} {hdct : Bool} {sn : List Str} {sub : List Value} {ab : Bool} {col : Option Bool} {dd : Option Addr} {k0 k1 k2 k3 k5 : Option Value} {B newId initId : String}
/-- the built-in maker's own checks, for an own class two steps above a built-in one -/
theorem check_new_w (F : ExcBaseFacts B newId initId bmB) (hB : bm.contains (.type B) = true) {M : Model} {rest : List Value} {Q : Unit → Shared → Prop}
    (hC : h.get? C = some (excClassObj nm q C N bs bm hdct sn sub ab col dd k0 k1 k2 k3 k5 newId)) (hq : Q () ⟨h, g, d, t, os⟩) : wpAny M A (checkBuiltinCall newId ⟨.ref C :: rest, []⟩) Q E ⟨h, g, d, t, os⟩ := by
  have hcont : (Value.ref C :: bm).contains (.type B) = true := by rw [List.contains_cons, hB, Bool.or_true]
  have hstar := F.noStar
  simp only [checkBuiltinCall, F.newKind, F.newSplit, F.newRow]
  repeat (first | refine wpAny_loadPart_at hC ?_ | (refine wpAny_isSubtype_exc hC ?_; rw [hcont]) | refine wpAny_staticBase_exc hC ?_ | refine wpAny_madeBy_exc hC ?_ | simp only [bne_self_eq_false, Bool.false_eq_true, if_false] | wp_step)
  exact hq
theorem exc_new_w (F : ExcBaseFacts B newId initId bmB) (hB : bm.contains (.type B) = true) (hAt : bm.contains (.type "AttributeError") = false) (hNa : bm.contains (.type "NameError") = false) {R : Result → Shared → Prop} {rest : List Value}
    (hC : h.get? C = some (excClassObj nm q C N bs bm hdct sn sub ab col dd k0 k1 k2 k3 k5 newId))
    (hq : R (.ok (.ret (.ref (h.objs.size + 1)))) ⟨(h.push (tupObj rest)).push (excObj C h.objs.size none), g, d, t, os⟩) (hrest : rest.length ≤ sizeLine) :
    codeAny (model prog w) A (.builtin newId ⟨.ref C :: rest, []⟩) R ⟨h, g, d, t, os⟩ := by
  have hends := F.ends
  have hcB : (Value.ref C :: bm).contains (.type B) = true := by rw [List.contains_cons, hB, Bool.or_true]
  have hcA : (Value.ref C :: bm).contains (.type "AttributeError") = false := by rw [List.contains_cons, hAt]; rfl
  have hcN : (Value.ref C :: bm).contains (.type "NameError") = false := by rw [List.contains_cons, hNa]; rfl
  refine codeAny_builtinAt F.entry ?_
  unfold Builtin.«BaseException.__new__»
  refine PySem.wpAt_bind ?_
  show PySem.wpAt _ _ _ (stack >>= _) _ _ _
  refine PySem.wpAt_bind (PySem.wpAt_stack fun p below => PySem.wpAt_of_wpAny ?_)
  wp_walk
  refine PySem.wpAt_of_wpAny ?_
  rw [F.owner]
  repeat (first | with_reducible refine wpAny_madeHere_exc F.canon hC ?_ | with_reducible refine wpAny_loadPart_at hC ?_ | (with_reducible refine wpAny_isSubtype_exc hC ?_; first | rw [hcB] | rw [hcA] | rw [hcN]) | wp_step)
  show R _ _
  rw [Heap.size_push]
  exact hq
theorem check_init_w (F : ExcBaseFacts B newId initId bmB) (hB : bm.contains (.type B) = true) {M : Model} {kId : String} {e : Addr} {oe : Obj} {rest : List Value} {Q : Unit → Shared → Prop}
    (hC : h.get? C = some (excClassObj nm q C N bs bm hdct sn sub ab col dd k0 k1 k2 k3 k5 kId)) (he : h.get? e = some oe) (hcls : oe.cls = .ref C) (hq : Q () ⟨h, g, d, t, os⟩) :
    wpAny M A (checkBuiltinCall initId ⟨.ref e :: rest, []⟩) Q E ⟨h, g, d, t, os⟩ := by
  have hcB : (Value.ref C :: bm).contains (.type B) = true := by rw [List.contains_cons, hB, Bool.or_true]
  have hshort := F.noStar
  simp only [checkBuiltinCall, F.initKind, F.initSplit, F.initRow]
  repeat (first | (with_reducible refine wpAny_loadPart_at he ?_; rw [hcls]) | with_reducible refine wpAny_loadPart_at hC ?_ | (with_reducible refine wpAny_isSubtype_exc hC ?_; rw [hcB]) | wp_step)
  refine wpAny_onRaise ?_
  rw [show ∀ (a b : String) (n : Nat), Bind.check ⟨.positional, "*", B, .self, [⟨"args", .varPos, false⟩]⟩ a b n (List.map (fun x => x.fst) ({ pos := Value.ref e :: rest } : Args).kw) = pure () from
    fun a b n => check_star_args _ _ _ _ _ _]
  exact wpAny_pure hq
/-- an own exception class called, whose __init__ is a def of the text -/
theorem type_call_w (F : ExcBaseFacts B newId initId bmB) (hB : bm.contains (.type B) = true) (hAt : bm.contains (.type "AttributeError") = false) (hNa : bm.contains (.type "NameError") = false) {rest : List Value} {fI : Addr} {Q : Fin → Shared → Prop}
    (hC : h.get? C = some (excClassObj nm q C N bs bm hdct sn sub ab col dd k0 k1 k2 k3 k5 newId)) (hi : Looks (model prog w) h (typeLookup (.ref C) "__init__") (some (.ref fI))) (hf : Looks (model prog w) h (typeOf (.ref fI)) (.type "function"))
    (hq : wpAny (model prog w) A (call (.ref fI) (.ref (h.objs.size + 1) :: rest)) (fun r s' => r = .none ∧ Q (.done (.ret (.ref (h.objs.size + 1)))) s') E ⟨(h.push (tupObj rest)).push (excObj C h.objs.size none), g, d, t, os⟩) (hrest : rest.length ≤ sizeLine) :
    wpAny (model prog w) A (Builtin.«type.__call__» ⟨.ref C :: rest, []⟩) Q E ⟨h, g, d, t, os⟩ := by
  repeat (first | with_reducible refine wpAny_loadPart_at hC ?_ | with_reducible refine wpAny_madeBy_exc hC ?_ | wp_step)
  refine codeAny_call_builtin_code (Code.quiet_builtin _ F.quiet) (check_new_w F hB hC ?_)
  refine exc_new_w F hB hAt hNa hC ?_ hrest
  show wpAny _ _ _ _ _ _
  have up : ∀ b o, h.get? b = some o → ((h.push (tupObj rest)).push (excObj C h.objs.size none)).get? b = some o := fun b o x => Heap.get?_push_of_some _ (Heap.get?_push_of_some _ x)
  have hC₁ := up _ _ hC
  have hget : ((h.push (tupObj rest)).push (excObj C h.objs.size none)).get? (h.objs.size + 1) = some (excObj C h.objs.size none) := by heap_get
  have hcC : (Value.ref C :: bm).contains (.ref C) = true := by simp
  unfold isInstance
  repeat (first | with_reducible refine wpAny_loadPart_at hget ?_ | (with_reducible refine wpAny_isSubtype_exc hC₁ ?_; rw [hcC]) | wp_step)
  show wpAny _ _ (typeLookup (.ref C) _) _ _ _
  refine (hi.keeps up).here ?_
  refine wpAny_holding (wpAny_bind ?_)
  unfold bindSpecial
  refine wpAny_bind ((hf.keeps up).here ?_)
  rw [if_pos (by decide)]
  refine wpAny_pure (wpAny_bind (wpAny_mono hq (fun r s' hr => ?_) fun _ _ x => x))
  obtain ⟨rfl, hQ⟩ := hr
  wp_walk
  exact hQ
theorem call_w (F : ExcBaseFacts B newId initId bmB) (hB : bm.contains (.type B) = true) (hAt : bm.contains (.type "AttributeError") = false) (hNa : bm.contains (.type "NameError") = false) {rest : List Value} {fI : Addr} {Q : Value → Shared → Prop}
    (hC : h.get? C = some (excClassObj nm q C N bs bm hdct sn sub ab col dd k0 k1 k2 k3 k5 newId)) (hi : Looks (model prog w) h (typeLookup (.ref C) "__init__") (some (.ref fI))) (hf : Looks (model prog w) h (typeOf (.ref fI)) (.type "function"))
    (hq : wpAny (model prog w) (A.under (.builtin "type.__call__" ⟨.ref C :: rest, []⟩)) (call (.ref fI) (.ref (h.objs.size + 1) :: rest)) (fun r s' => r = .none ∧ Q (.ref (h.objs.size + 1)) s') E ⟨(h.push (tupObj rest)).push (excObj C h.objs.size none), g, d, t, os⟩) (hrest : rest.length ≤ sizeLine) :
    wpAny (model prog w) A (call (.ref C) rest) Q E ⟨h, g, d, t, os⟩ := by
  have f1 := tc_lookup
  have f2 := tc_bind (.ref C)
  have hT : (⟨h, g, d, t, os⟩ : Shared).TypeIs (.ref C) "type" := ⟨_, hC, rfl⟩
  refine wpAny_call (codeAny_of_tree ?_)
  show wpAny _ _ (callAny (.ref C) _) _ _ _
  repeat (any_goals (first | assumption | with_reducible refine wpAny_loadPart_at hC ?_ | wp_step))
  refine ⟨rfl, ?_⟩
  exact codeAny_call_builtin_at (Code.quiet_builtin _ (by decide +kernel)) entry_typeCall (wpAny_check_type_call_sub hC (type_call_w F hB hAt hNa hC hi hf hq hrest))
end
section
open Builtin Builtin.BaseException Builtin.ObjectAttr
variable {prog : Program} {w : World} {A : Around} {E : Value → Shared → Prop} {s : Shared} {h₀ : Heap} {L : Addr} {m : Str → Option Value} {K : Frag} {Q : Value → Shared → Prop} {C e t0 : Addr} {v : Value} {rest : List (Addr × Obj)}
theorem exc_init_call (F : Fr h₀ L s.heap m) (X₀ : K.In h₀) (N : News h₀ L s.heap ((e, excObj C t0 none) :: rest)) (hr : ∀ p ∈ rest, p.1 ≠ e) (hs : ktsIn K C "Exception" = true)
    (h : ∀ t2 h', Fr h₀ L h' m → News h₀ L h' ((e, excObj C t2 none) :: (t2, tupObj [v]) :: rest) → e < t2 → (∀ p ∈ rest, p.1 < t2) → (∀ p ∈ (t2, tupObj [v]) :: rest, p.1 ≠ e) → Q .none { s with heap := h' }) :
    wpAny (model prog w) A (call (.builtin "Exception.__init__") [.ref e, v]) Q E s := by
  have X := X₀.keeps F.keep
  have he := (N _ (.head _)).1
  obtain ⟨nm, qn, NN, bs, bm, hdct, sn, sub, ab, col, dd, k0, k1, k2, k3, k5, nid, hC, -, hT⟩ := kts_cls X hs
  have EF := PySem.F.excBase_Exception
  refine wpAny_call (codeAny_call_builtin (by decide +kernel) EF.initEntry (check_init_w EF hT hC he rfl ?_))
  show wpAny _ _ (newTuple [v] >>= fun tup => bexcPut (.ref e) 0 tup >>= fun _ => ret .none) _ _ _
  refine wpAny_bind (wpAny_newObj_type ?_ (by show 1 ≤ sizeLine; exact Nat.le_of_ble_eq_true rfl))
  have N₁ := N.push F (tupObj [v])
  have F₁ := F.push (tupObj [v])
  have lt : ∀ p ∈ (e, excObj C t0 none) :: rest, p.1 < s.heap.objs.size := fun p hp => Heap.lt_size (N p hp).1
  have he₁ := (N₁ (e, excObj C t0 none) (.tail _ (.head _))).1
  unfold bexcPut
  refine wpAny_bind (wpAny_bind (wpAny_field he₁ rfl (x := .ref t0) (by rfl) (wpAny_bind (wpAny_setField he₁ rfl (by show 0 < 6; decide) ?_))))
  refine wpAny_letGo (wpAny_pure ?_)
  obtain ⟨F₂, N₂⟩ := news_upd (f := Obj.mapFields (·.setIfInBounds 0 (.ref s.heap.objs.size))) (o' := excObj C s.heap.objs.size none) (pre := [(s.heap.objs.size, tupObj [v])]) (post := rest) F₁ N₁ (fun p hp => by
    rw [List.mem_singleton.mp hp]; exact Nat.ne_of_gt (lt _ (.head _))) hr (by rfl) rfl
  refine h _ _ F₂ (fun p hp => N₂ p ?_) (lt (e, excObj C t0 none) (.head _)) (fun p hp => lt p (.tail _ hp)) fun p hp => ?_
  · rcases List.mem_cons.mp hp with rfl | hp
    · exact .tail _ (.head _)
    · rcases List.mem_cons.mp hp with rfl | hp
      · exact .head _
      · exact .tail _ (.tail _ hp)
  · rcases List.mem_cons.mp hp with rfl | hp
    · exact Nat.ne_of_gt (lt (e, excObj C t0 none) (.head _))
    · exact hr p hp
end
end
section
section
open Builtin Builtin.ObjectAttr
variable {prog : Program} {w : World} {A : Around} {E : Value → Shared → Prop} {s : Shared} {h₀ : Heap} {L : Addr} {m : Str → Option Value} {K : Frag} {C P x dx : Addr} {v : Value} {name : Str} {tk : Tok} {rest : List (Addr × Obj)}
theorem store_dict {es es' : List DictEntry} {n n' : Nat} {Q : PySem.Fin → Shared → Prop} (F : Fr h₀ L s.heap m) (N : News h₀ L s.heap ((dx, dictOf es n) :: rest)) (hr : ∀ p ∈ rest, p.1 ≠ dx) (hk : es.any (·.refKey) = false)
    (e : Obj.putName name (PyData.keyHash w.params name) (.str name s.toks) v (dictOf es n) = dictOf es' n') (hz : es'.length ≤ 1000)
    (h : ∀ h' tk', Fr h₀ L h' m → News h₀ L h' ((dx, dictOf es' n') :: rest) → Q (.done (.ret .none)) { s with heap := h', toks := tk' }) :
    wpAny (model prog w) A (storeInDict dx (.str name tk) name v) Q E s := by
  have D := (N (dx, dictOf es n) (.head _)).1
  obtain ⟨U1, U2⟩ := news_upd (f := Obj.putName name (PyData.keyHash w.params name) (.str name s.toks) v) (pre := []) (post := rest) F N (fun p hp => nomatch hp) hr e rfl
  have D' := (U2 (dx, dictOf es' n') (.head _)).1
  unfold storeInDict newKeyGuard nsSet
  refine wpAny_bind (wpAny_pure (wpAny_bind (wpAny_bind (wpAny_bind (wpAny_askSetting (wpAny_pure (wpAny_bind (wpAny_mkText (wpAny_bind (wpAny_loadPart D ?_))))))))))
  dsimp only
  have c : aRefKeyMayBeTheName name es.toArray = false := by
    have hk' : es.toArray.any (·.refKey) = false := by rw [← Array.any_toList]; exact hk
    rw [aRefKeyMayBeTheName_at, hk', Bool.and_false]
  rw [c]
  refine wpAny_updatePart D ?_
  refine wpAny_bind (wpAny_lookBehind D' (pastItsLine_dict (by rw [List.size_toArray, sizeLine_eq]; omega)) ?_)
  exact wpAny_pure (h _ _ U1 U2)
/-- object.__setattr__ upon an own exception's object -/
theorem osa_exc {ox : Obj} {od : Option Obj} {cd : ClassData} {R : Result → Shared → Prop} (X : K.In s.heap) (I : InstAt s.heap x ox C od) (hc : clsIn K C = some cd) (hm : cd.mro = [.ref C, .ref P, .type "Exception", .type "BaseException", .type "object"])
    (hs : subIn K (.ref C) (.type "object") = some true) (ht : takerIn K C name = some none)
    (h : ∀ b, wpAny (model prog w) A.in1 (storeInOwnDict (.ref x) (.ref C) (.str name tk) name v b)
      (fun fin s' => match fin with | .done f => R (.ok f) s' | .again c' => c'.quiet = true ∧ codeAny (model prog w) A c' R s') (fun e s' => R (.error e) s') s) :
    codeAny (model prog w) A (.call (.builtin "object.__setattr__") ⟨[.ref x, .str name tk, v], []⟩) R s := by
  have SF := PySem.F.store_object
  have sub : Looks (model prog w) s.heap (isInstance (.ref x) (.type "object")) true := I.type.andThen (looks_subIn X hs)
  refine codeAny_call_builtin SF.slot.plain SF.entry (@check_slot (model prog w) _ _ s "object.__setattr__" "object" "__setattr__" (.ref x) [.str name tk, v] [] _ SF.kind SF.split sub (SF.args (.ref x) (.str name tk) v) ?_)
  obtain ⟨attr, ha, hr⟩ := Option.bind_eq_some_iff.mp ht
  have hml : Looks (model prog w) s.heap (mroOf (.ref C)) cd.mro := (looks_clsIn X hc).andThen .now
  have L3 : Looks (model prog w) s.heap (storeTaker? attr) none := by
    cases attr with
    | none => exact .now
    | some a =>
      obtain ⟨b, hb, hb'⟩ := Option.map_eq_some_iff.mp hr
      refine (looks_takesIn X hb).andThen ?_
      cases b
      · exact .now
      · cases hb'
  rw [osa_eq, refuse_eq]
  refine wpAny_bind (wpAny_bind (I.type.here (wpAny_bind (hml.here ?_))))
  rw [hm, refuseLoop_ref, refuseLoop_ref, PySem.F.store_Exception.passes]
  exact wpAny_pure (wpAny_bind (I.type.here (wpAny_bind ((looks_findIn X ha).here (wpAny_bind (L3.here (h _)))))))
/-- its first attribute: the dict is made -/
theorem exc_set_first {t : Addr} {cd : ClassData} {es' : List DictEntry} {Q : Unit → Shared → Prop} (F : Fr h₀ L s.heap m) (X₀ : K.In h₀) (N : News h₀ L s.heap ((x, excObj C t none) :: rest)) (hr : ∀ p ∈ rest, p.1 ≠ x)
    (hsa : findIn K (.ref C) "__setattr__" = some (some (.builtin "object.__setattr__"))) (hc : clsIn K C = some cd) (hm : cd.mro = [.ref C, .ref P, .type "Exception", .type "BaseException", .type "object"]) (hd : cd.hasDict = true)
    (hs : subIn K (.ref C) (.type "object") = some true) (ht : takerIn K C name = some none)
    (e : Obj.putName name (PyData.keyHash w.params name) (.str name (s.toks + 1)) v (dictOf [] 0) = dictOf es' 1) (hz : es'.length ≤ 1000)
    (h : ∀ d h' tk', Fr h₀ L h' m → News h₀ L h' ((d, dictOf es' 1) :: (x, excObj C t (some d)) :: rest) → (∀ p ∈ (x, excObj C t (some d)) :: rest, p.1 ≠ d) → Q () { s with heap := h', toks := tk' }) :
    wpAny (model prog w) A (setAttr (.ref x) name v) Q E s := by
  have X := X₀.keeps F.keep
  have hx := (N (x, excObj C t none) (.head _)).1
  have I : InstAt s.heap x (excObj C t none) C none := ⟨hx, rfl, rfl, trivial⟩
  refine set_plain X I hsa (osa_exc (s := { s with toks := s.toks + 1 }) X I hc hm hs ht fun b => ?_)
  have lt : ∀ p ∈ (x, excObj C t none) :: rest, p.1 < s.heap.objs.size := fun p hp => Heap.lt_size (N p hp).1
  have N₁ := N.push F (dictOf [] 0)
  have F₁ := F.push (dictOf [] 0)
  have hx₁ := (N₁ (x, excObj C t none) (.tail _ (.head _))).1
  obtain ⟨F₂, N₂⟩ := news_upd (f := fun o => { o with dict := some s.heap.objs.size }) (o' := excObj C t (some s.heap.objs.size)) (pre := [(s.heap.objs.size, dictOf [] 0)]) (post := rest) F₁ N₁ (fun p hp => by
    rw [List.mem_singleton.mp hp]; exact Nat.ne_of_gt (lt _ (.head _))) hr (by rfl) rfl
  unfold storeInOwnDict
  refine wpAny_bind (wpAny_pure ?_)
  refine wpAny_bind (wpAny_bind (wpAny_loadPart hx (wpAny_bind (Looks.here (s := { s with toks := s.toks + 1 }) (looks_clsIn X hc) ?_))))
  rw [hd, if_neg (by decide), if_neg (by show ¬ (false || false) = true; decide)]
  refine wpAny_bind (wpAny_alloc (wpAny_bind (wpAny_update hx₁ ?_)))
  refine wpAny_pure (a := some s.heap.objs.size) ?_
  refine store_dict (es := []) (n := 0) F₂ N₂ (fun p hp => ?_) rfl e hz fun h' tk' F₃ N₃ => h _ h' tk' F₃ N₃ fun p hp => ?_
  · rcases List.mem_cons.mp hp with rfl | hp
    · exact Nat.ne_of_lt (lt (x, excObj C t none) (.head _))
    · exact Nat.ne_of_lt (lt _ (.tail _ hp))
  · rcases List.mem_cons.mp hp with rfl | hp
    · exact Nat.ne_of_lt (lt (x, excObj C t none) (.head _))
    · exact Nat.ne_of_lt (lt _ (.tail _ hp))
/-- a further attribute -/
theorem exc_set_more {t : Addr} {cd : ClassData} {es es' : List DictEntry} {n n' : Nat} {Q : Unit → Shared → Prop} (F : Fr h₀ L s.heap m) (X₀ : K.In h₀) (N : News h₀ L s.heap ((dx, dictOf es n) :: (x, excObj C t (some dx)) :: rest)) (hr : ∀ p ∈ (x, excObj C t (some dx)) :: rest, p.1 ≠ dx)
    (hsa : findIn K (.ref C) "__setattr__" = some (some (.builtin "object.__setattr__"))) (hc : clsIn K C = some cd) (hm : cd.mro = [.ref C, .ref P, .type "Exception", .type "BaseException", .type "object"]) (hd : cd.hasDict = true)
    (hs : subIn K (.ref C) (.type "object") = some true) (ht : takerIn K C name = some none) (hk : es.any (·.refKey) = false)
    (e : Obj.putName name (PyData.keyHash w.params name) (.str name (s.toks + 1)) v (dictOf es n) = dictOf es' n') (hz : es'.length ≤ 1000)
    (h : ∀ h' tk', Fr h₀ L h' m → News h₀ L h' ((dx, dictOf es' n') :: (x, excObj C t (some dx)) :: rest) → Q () { s with heap := h', toks := tk' }) :
    wpAny (model prog w) A (setAttr (.ref x) name v) Q E s := by
  have X := X₀.keeps F.keep
  have hx := (N (x, excObj C t (some dx)) (.tail _ (.head _))).1
  have hdx := (N (dx, dictOf es n) (.head _)).1
  have I : InstAt s.heap x (excObj C t (some dx)) C (some (dictOf es n)) := ⟨hx, rfl, rfl, hdx⟩
  refine set_plain X I hsa (osa_exc (s := { s with toks := s.toks + 1 }) X I hc hm hs ht fun b => ?_)
  unfold storeInOwnDict
  refine wpAny_bind (wpAny_pure ?_)
  refine wpAny_bind (wpAny_bind (wpAny_loadPart hx (wpAny_bind (Looks.here (s := { s with toks := s.toks + 1 }) (looks_clsIn X hc) ?_))))
  rw [hd, if_neg (by decide)]
  refine wpAny_pure (a := some dx) ?_
  exact store_dict F N hr hk e hz fun h' tk' F₃ N₃ => h h' tk' F₃ N₃
end
end
section
theorem ne_of_all {news : List (Addr × Obj)} {e : Addr} (h : ∀ p ∈ news, p.1 < e) : ∀ p ∈ news, p.1 ≠ e := fun p hp => Nat.ne_of_lt (h p hp)
theorem news_tail {h₀ h : Heap} {L : Addr} {p : Addr × Obj} {rest : List (Addr × Obj)} (N : News h₀ L h (p :: rest)) : News h₀ L h rest := fun q hq => N q (.tail _ hq)
section
theorem c_init (w : World) (mean mg mb) (news) (e t0 : Addr) (what : Str) (t : Tok) (at_ : Int) (u : Tok) : Claim w mean mg mb 2 36 ((e, excObj 59 t0 none) :: news) [.ref e, .str what t, .int at_ u] (∀ p ∈ news, p.1 < e) (fun _ h₀ L m s Q =>
    ∀ (t2 d : Addr) (h' : Heap) (tk' : Nat), Fr h₀ L h' m → News h₀ L h' ((e, excObj 59 t2 (some d)) :: (t2, tupObj [.str what t]) :: news) → e < t2 → (∀ p ∈ news, p.1 < t2) → Q .none { s with heap := h', toks := tk' }) := by
  unfold Claim; k_fill; intros; rename_i hret
  have hne := ne_of_all (by assumption : ∀ p ∈ news, p.1 < e)
  refine wpAny_call ?_
  (k_dflt (refine' code_def ?k1 ?k2 ?k3 ?k4 ?k5 ?kA ?kF ?kK ?k6 ?k7 ?k8 ?k9 ?kB ?_ ?c2 ?c3 ?c4 ?c5; (case kA => exact rfl); (case kF => exact rfl); (case kK => assumption); (case k1 => k_asm); (case k2 => k_asm); (case k3 => k_asm); (case k4 => k_asm); (case k5 => k_asm); (case k6 => k_is); (case k7 => k_is); (case k8 => ktr_room); (case k9 => exact binds_K (by k_in) rfl (by k_is) rfl rfl rfl); (case c5 => decide); (case kB => exact locs rfl); (case c2 => exact rfl); (case c3 => exact rfl); (case c4 => exact rfl); k_whole; intro g' L' h' FG' F' N' B' X' T'; (try dsimp only); (try k_lift B'); (try k_fold)))
  k_with_none
  (k_with "own getMethod type:Exception" => (k_here; refine' method_type (by k_asm) (by k_asm) (by exact meta_exc) (by decide +kernel) (by k_dflt k_is) (by k_handed) ?_))
  (k_with "own call builtin:Exception.__init__" => (k_here; k_dflt (refine' exc_init_call (by k_asm) (by k_asm) (by k_asm) (by assumption) (by kts_isx) ?_); intro t2' h' F' N' l1' l2' l3'))
  (k_with "own setAttr ref" => (k_here; k_dflt (refine' exc_set_first (P := 46) (es' := [⟨_, .str _ _, _⟩]) (by k_asm) (by k_asm) (by k_asm) (by assumption) (by k_is) (by k_is) (by rfl) (by rfl) (by k_is) (by k_is) (by rfl) (by exact Nat.le_of_ble_eq_true rfl) ?_); intro d' h' tk' F' N' l4'))
  (k_with "own setAttr ref" => (k_here; k_dflt (refine' exc_set_more (P := 46) (es' := [⟨_, _, _⟩, ⟨_, .str _ _, _⟩]) (by k_asm) (by k_asm) (by k_asm) (by assumption) (by k_is) (by k_is) (by rfl) (by rfl) (by k_is) (by k_is) (by rfl) (by rfl) (by exact Nat.le_of_ble_eq_true rfl) ?_); intro h' tk' F' N'))
  k_steps
  all_goals exact hret _ _ _ _ (by k_asm) (news_tail (by assumption)) (by assumption) (by assumption)
theorem c_init1 (w : World) (mean mg mb) (news) (e t0 : Addr) (what : Str) (t : Tok) : Claim w mean mg mb 2 36 ((e, excObj 59 t0 none) :: news) [.ref e, .str what t] (∀ p ∈ news, p.1 < e) (fun _ h₀ L m s Q =>
    ∀ (t2 d : Addr) (h' : Heap) (tk' : Nat), Fr h₀ L h' m → News h₀ L h' ((e, excObj 59 t2 (some d)) :: (t2, tupObj [.str what t]) :: news) → e < t2 → (∀ p ∈ news, p.1 < t2) → Q .none { s with heap := h', toks := tk' }) := by
  unfold Claim; k_fill; intros; rename_i hret
  have hne := ne_of_all (by assumption : ∀ p ∈ news, p.1 < e)
  refine wpAny_call ?_
  (k_dflt (refine' code_def ?k1 ?k2 ?k3 ?k4 ?k5 ?kA ?kF ?kK ?k6 ?k7 ?k8 ?k9 ?kB ?_ ?c2 ?c3 ?c4 ?c5; (case kA => exact rfl); (case kF => exact rfl); (case kK => assumption); (case k1 => k_asm); (case k2 => k_asm); (case k3 => k_asm); (case k4 => k_asm); (case k5 => k_asm); (case k6 => k_is); (case k7 => k_is); (case k8 => ktr_room); (case k9 => exact binds_K (by k_in) rfl (by k_is) rfl rfl rfl); (case c5 => decide); (case kB => exact locs rfl); (case c2 => exact rfl); (case c3 => exact rfl); (case c4 => exact rfl); k_whole; intro g' L' h' FG' F' N' B' X' T'; (try dsimp only); (try k_lift B'); (try k_fold)))
  k_with_none
  (k_with "own getMethod type:Exception" => (k_here; refine' method_type (by k_asm) (by k_asm) (by exact meta_exc) (by decide +kernel) (by k_dflt k_is) (by k_handed) ?_))
  (k_with "own call builtin:Exception.__init__" => (k_here; k_dflt (refine' exc_init_call (by k_asm) (by k_asm) (by k_asm) (by assumption) (by kts_isx) ?_); intro t2' h' F' N' l1' l2' l3'))
  (k_with "own setAttr ref" => (k_here; k_dflt (refine' exc_set_first (P := 46) (es' := [⟨_, .str _ _, _⟩]) (by k_asm) (by k_asm) (by k_asm) (by assumption) (by k_is) (by k_is) (by rfl) (by rfl) (by k_is) (by k_is) (by rfl) (by exact Nat.le_of_ble_eq_true rfl) ?_); intro d' h' tk' F' N' l4'))
  (k_with "own setAttr ref" => (k_here; k_dflt (refine' exc_set_more (P := 46) (es' := [⟨_, _, _⟩, ⟨_, .str _ _, _⟩]) (by k_asm) (by k_asm) (by k_asm) (by assumption) (by k_is) (by k_is) (by rfl) (by rfl) (by k_is) (by k_is) (by rfl) (by rfl) (by exact Nat.le_of_ble_eq_true rfl) ?_); intro h' tk' F' N'))
  k_steps
  all_goals exact hret _ _ _ _ (by k_asm) (news_tail (by assumption)) (by assumption) (by assumption)
end
end
section
theorem news_made {h₀ : Heap} {L e t0 : Addr} {h : Heap} {o o' : Obj} {news : List (Addr × Obj)} (N : News h₀ L h ((e, o) :: (t0, o') :: news)) : News h₀ L h ((e, o) :: news) := fun p hp => by
  rcases List.mem_cons.mp hp with rfl | hp
  · exact N _ (.head _)
  · exact N p (.tail _ (.tail _ hp))
def WordBack (what : Str) (t : Tok) (news : List (Addr × Obj)) : Heap → Heap → Addr → (Str → Option Value) → Shared → (Value → Shared → Prop) → Prop := fun _ h₀ L m s Q =>
  ∀ (e t2 d : Addr) (h' : Heap) (tk' : Nat), Fr h₀ L h' m → News h₀ L h' ((e, excObj 59 t2 (some d)) :: (t2, tupObj [.str what t]) :: news) → e < t2 → (∀ p ∈ news, p.1 < e) → Q (.ref e) { s with heap := h', toks := tk' }
theorem c_word2 (w : World) (mean mg mb) (news) (what : Str) (t : Tok) (at_ : Int) (u : Tok) : Claim w mean mg mb 5 59 news [.str what t, .int at_ u] True (WordBack what t news) := by
  unfold Claim; k_fill
  intro dp un gd cn cs a ccd cl outer A₀ base h₀ L m s Q E B F X N T hk _ hd hu hret
  obtain ⟨h, g, d, tk, os⟩ := s
  have Xh := X.keeps F.keep
  have N₁ := N.push F (tupObj [.str what t, .int at_ u])
  have F₁ := F.push (tupObj [.str what t, .int at_ u])
  have N₂ := N₁.push F₁ (excObj 59 h.objs.size none)
  have F₂ := F₁.push (excObj 59 h.objs.size none)
  rw [Heap.size_push] at N₂
  have lt : ∀ p ∈ news, p.1 < h.objs.size + 1 := fun p hp => Nat.lt_succ_of_lt (Heap.lt_size (N p hp).1)
  refine call_w (C := 59) (fI := 36) PySem.F.excBase_Exception (bm := [.ref 46, .type "Exception", .type "BaseException", .type "object"]) (by rfl) (by rfl) (by rfl) (Xh _ _ (by k_dflt k_is)) (looks_findIn Xh (by k_dflt k_is)) (looks_typeIn Xh (by k_dflt k_is)) ?_ (by exact Nat.le_of_ble_eq_true rfl)
  have ew : (Code.builtin "type.__call__" ⟨[.ref 59, .str what t, .int at_ u], []⟩).weight ≤ 2 := by exact Nat.le_of_ble_eq_true rfl
  have eu : (Code.builtin "type.__call__" ⟨[.ref 59, .str what t, .int at_ u], []⟩).cUnits ≤ 20 := by exact Nat.le_of_ble_eq_true rfl
  refine Claim.use (c_init w mean mg mb news (h.objs.size + 1) h.objs.size what t at_ u) lt ?_ (news_made N₂) F₂ B X T hk (by simp only [recursionLimit] at hd ⊢; omega) (by have := cLine_is; (try dsimp only [ktrTop]); omega)
  intro t2 d' h' tk' F' N' l1 l2
  exact ⟨rfl, hret _ _ _ _ _ F' N' l1 lt⟩
theorem c_word1 (w : World) (mean mg mb) (news) (what : Str) (t : Tok) : Claim w mean mg mb 5 59 news [.str what t] True (WordBack what t news) := by
  unfold Claim; k_fill
  intro dp un gd cn cs a ccd cl outer A₀ base h₀ L m s Q E B F X N T hk _ hd hu hret
  obtain ⟨h, g, d, tk, os⟩ := s
  have Xh := X.keeps F.keep
  have N₁ := N.push F (tupObj [.str what t])
  have F₁ := F.push (tupObj [.str what t])
  have N₂ := N₁.push F₁ (excObj 59 h.objs.size none)
  have F₂ := F₁.push (excObj 59 h.objs.size none)
  rw [Heap.size_push] at N₂
  have lt : ∀ p ∈ news, p.1 < h.objs.size + 1 := fun p hp => Nat.lt_succ_of_lt (Heap.lt_size (N p hp).1)
  refine call_w (C := 59) (fI := 36) PySem.F.excBase_Exception (bm := [.ref 46, .type "Exception", .type "BaseException", .type "object"]) (by rfl) (by rfl) (by rfl) (Xh _ _ (by k_dflt k_is)) (looks_findIn Xh (by k_dflt k_is)) (looks_typeIn Xh (by k_dflt k_is)) ?_ (by exact Nat.le_of_ble_eq_true rfl)
  have ew : (Code.builtin "type.__call__" ⟨[.ref 59, .str what t], []⟩).weight ≤ 2 := by exact Nat.le_of_ble_eq_true rfl
  have eu : (Code.builtin "type.__call__" ⟨[.ref 59, .str what t], []⟩).cUnits ≤ 20 := by exact Nat.le_of_ble_eq_true rfl
  refine Claim.use (c_init1 w mean mg mb news (h.objs.size + 1) h.objs.size what t) lt ?_ (news_made N₂) F₂ B X T hk (by simp only [recursionLimit] at hd ⊢; omega) (by have := cLine_is; (try dsimp only [ktrTop]); omega)
  intro t2 d' h' tk' F' N' l1 l2
  exact ⟨rfl, hret _ _ _ _ _ F' N' l1 lt⟩
end
section
section
variable {M : Model} {A : Around} {E : Value → Shared → Prop} {s : Shared}
def WordMade (C : Addr) (E : Value → Shared → Prop) (v : Value) (s₁ : Shared) : Prop :=
  ∃ K e t d, v = .ref e ∧ K.In s₁.heap ∧ ktsIn K C "Exception" = true ∧ s₁.heap.get? e = some (excObj C t (some d)) ∧ E (.ref e) s₁
theorem WordMade.intro {K : Frag} {C e t d : Addr} {s₁ : Shared} (X : K.In s₁.heap) (q : ktsIn K C "Exception" = true) (he : s₁.heap.get? e = some (excObj C t (some d))) (h : E (.ref e) s₁) : WordMade C E (.ref e) s₁ := ⟨K, e, t, d, rfl, X, q, he, h⟩
theorem raiseStmt_w {C : Addr} {env : Env} {x : Sem Value} {Q : Flow → Shared → Prop} (hh : A.handled = none) (h : wpAny M A x (WordMade C E) E s) : wpAny M A (raiseStmt env (some x) none) Q E s := by
  unfold raiseStmt
  refine wpAny_bind (wpAny_mono h (fun v s₁ h₁ => ?_) fun _ _ x => x)
  obtain ⟨K, e, t, dx, rfl, X, q, he, hE⟩ := h₁
  obtain ⟨nm, qn, NN, bs, bm, hdct, sn, sub, ab, col, dd, k0, k1, k2, k3, k5, nid, hC, hB, -⟩ := kts_cls X q
  have hcB : (Value.ref C :: bm).contains (.type "BaseException") = true := by rw [List.contains_cons, hB, Bool.or_true]
  obtain ⟨hp, g, d, tk, os⟩ := s₁
  repeat (first | with_reducible refine wpAny_loadPart_at he ?_ | with_reducible refine wpAny_loadPart_at hC ?_ | (with_reducible refine wpAny_isSubtype_exc hC ?_; rw [hcB]) | wp_step)
  exact wpAny_raiseNew_none hh hE
theorem Raise_w {C : Addr} {env : Env} {f : Expr} {args : List Expr} {cpos pos : Pos} {Q : Flow → Shared → Prop} (hh : A.handled = none) (h : wpAny M A (eval (.Call f args [] cpos) env) (WordMade C E) E s) :
    wpAny M A (exec (.Raise (some (.Call f args [] cpos)) none pos) env) Q E s := by
  rw [arm_exec_Raise]
  exact wpAny_bind (wpAny_standAt (raiseStmt_w hh (wpAny_bind (wpAny_mono h (fun v s₃ h₃ => wpAny_bind (wpAny_standAt (wpAny_pure h₃))) fun _ _ x => x))))
theorem leaves_w {base h : Heap} {env : Env} {outer : List Env} {L e t C d : Addr} {args : List Value} {Q : Unit → Shared → Prop}
    (hfr : A.frames = some (env :: outer)) (hf : env.frame = some L) (hkb : base.StaysIn h) (hl : h.FunFrames base (env :: outer)) (keeps : ∀ b o, h.get? b = some o → s.heap.get? b = some o) (hen : h.get? e = none) (htn : h.get? t = none)
    (he : s.heap.get? e = some (excObj C t (some d))) (ht : s.heap.get? t = some (tupObj args))
    (hQ : ∀ h', Heap.FlyingW base outer e (.ref C) (.ref t) h' → h'.TupAt t args → base.get? t = none → s.heap.UpToSlots h' → Q () { s with heap := h' }) : wpAny M A (leaving env (.ref e)) Q E s := by
  have fresh : ∀ b, h.get? b = none → base.get? b = none := fun b hb => by
    cases hq : base.get? b with
    | none => rfl
    | some o' => have := hkb b o' hq; rw [hb] at this; cases this
  refine wpAny_leaving_firstW (a0 := .ref t) hfr (hl.of_keeps fun b o hb _ => ⟨o, keeps b o hb, rfl⟩) hf he (fun b o hb => keeps b o (hkb b o hb)) (fresh e hen) rfl rfl rfl fun h' hL => ?_
  obtain ⟨k1, ⟨_, _, k2⟩, k3, k4⟩ := hL
  exact hQ h' ⟨k1, fresh e hen, k2, k3⟩ (Heap.TupAt.of_slots ⟨_, _, ht, rfl, rfl⟩ k4) (fresh t htn) k4
theorem leave_wordS {base g : Heap} {outer : List Env} {L a e t d C : Addr} {m : Str → Option Value} {name : Str} {scope : Scope} {cd : Value} {Q : Unit → Shared → Prop} {news : List (Addr × Obj)} {vs : List Value}
    (K : Below A base outer g) (F : Fr g L s.heap m) (N : News g L s.heap ((e, excObj C t (some d)) :: (t, tupObj vs) :: news)) (hlt : e < t) (hn : ∀ p ∈ news, p.1 < e)
    (hQ : ∀ h', RaisedS base g outer e (.ref C) t vs news h' → RaisedK base outer e (.ref C) t vs news h' → g.UpToSlots h' → Q () { s with heap := h' }) (hk : scope.kind = .function := by rfl) :
    wpAny M (A.deeper (envOf name scope L a cd)) (leaving (envOf name scope L a cd) (.ref e)) Q E s := by
  have he := N (e, excObj C t (some d)) (.head _)
  have ht := N (t, tupObj vs) (.tail _ (.head _))
  have N₀ : News g L s.heap news := fun p hp => N p (.tail _ (.tail _ hp))
  have nm : ∀ b, b ≠ e → b ≠ t → b ∉ [e, t] := fun b h1 h2 hm => by
    rcases List.mem_cons.mp hm with h | h
    · exact h1 h
    · exact h2 (List.mem_singleton.mp h)
  have gk : ∀ b o, g.get? b = some o → (hideAll s.heap [e, t]).get? b = some o := fun b o q => hideAll_get _ (F.keep b o q) (nm b (fun z => by rw [z, he.2.2] at q; cases q) (fun z => by rw [z, ht.2.2] at q; cases q))
  have Fh : Fr g L (hideAll s.heap [e, t]) m := ⟨F.ns.at' fun o q => hideAll_get _ q (nm L (fun z => he.2.1 z.symm) (fun z => ht.2.1 z.symm)), gk, F.above⟩
  have Nh : News g L (hideAll s.heap [e, t]) news := fun p hp => ⟨hideAll_get _ (N₀ p hp).1 (nm p.1 (Nat.ne_of_lt (hn p hp)) (Nat.ne_of_lt (Nat.lt_trans (hn p hp) hlt))), (N₀ p hp).2⟩
  have hen : (hideAll s.heap [e, t]).get? e = none := hideAll_none _ (.head _)
  have htn : (hideAll s.heap [e, t]).get? t = none := hideAll_none _ (.tail _ (.head _))
  have K' := K.push (name := name) (a := a) (cd := cd) Fh hk
  have hin : ∀ env ∈ (envOf name scope L a cd :: outer), ∀ b, env.frame = some b → b ∈ (envOf name scope L a cd :: outer).filterMap (·.frame) := fun env he b hb => List.mem_filterMap.mpr ⟨env, he, hb⟩
  have st : base.StaysIn (hideAll (hideAll s.heap [e, t]) ((envOf name scope L a cd :: outer).filterMap (·.frame))) := fun b o q => hideAll_get _ (K'.stays b o q) fun hm => by
    rw [(K'.frames.mem hm).1] at q; cases q
  have sg : ∀ b o, g.get? b = some o → b ∉ outer.filterMap (·.frame) → (hideAll (hideAll s.heap [e, t]) ((envOf name scope L a cd :: outer).filterMap (·.frame))).get? b = some o := fun b o q nm => hideAll_get _ (Fh.keep b o q) fun hm => by
    rcases kts_mem hm with z | z
    · rw [z, kts_self Fh] at q
      cases q
    · exact nm z
  have hl : ∀ q ∈ news, (hideAll (hideAll s.heap [e, t]) ((envOf name scope L a cd :: outer).filterMap (·.frame))).get? q.1 = some q.2 ∧ g.get? q.1 = none ∧ base.get? q.1 = none := fun q hq => by
    refine ⟨hideAll_get _ (Nh q hq).1 fun hm => ?_, (Nh q hq).2.2, fresh_of_stays K.stays (Nh q hq).2.2⟩
    obtain ⟨env, he, hf⟩ := List.mem_filterMap.mp hm
    rcases List.mem_cons.mp he with rfl | he
    · exact (Nh q hq).2.1 (Option.some.inj hf).symm
    · obtain ⟨o, ho, _⟩ := (K.frames.mem (List.mem_filterMap.mpr ⟨env, he, hf⟩)).2
      rw [(Nh q hq).2.2] at ho; cases ho
  refine leaves_w (base := hideAll (hideAll s.heap [e, t]) ((envOf name scope L a cd :: outer).filterMap (·.frame))) (h := hideAll s.heap [e, t]) K'.stack rfl (fun b o q => of_hideAll _ q) (funFrames_hide K'.frames hin) (fun b o q => of_hideAll _ q) hen htn he.1 ht.1 fun h' x1 x2 x3 x4 => ?_
  have R : RaisedS base g outer e (.ref C) t vs news h' := ⟨⟨_, st, sg, hl, x1, x3⟩, x2⟩
  exact hQ h' R R.toK ((Heap.UpToSlots.of_keeps F.keep).trans x4)
end
end
section
/-- a call from a def that stands on the bottom -/
abbrev ClaimL (w : World) (mean : ExcName → Option Value) (mg mb : Str → Option Value) (k : Nat) (f : Addr) (news : List (Addr × Obj)) (vs : List Value) (pre : Prop)
    (Ret : Heap → Heap → Addr → (Str → Option Value) → Shared → (Value → Shared → Prop) → Prop) : Prop :=
  ∀ (dp un : Nat) (gd : Option (List Code)) (cn : Str) (cs : Scope) (a : Addr) (ccd : Value) (A₀ : Around) (base h₀ : Heap) (L : Addr) (m : Str → Option Value) (s : Shared) (Q E : Value → Shared → Prop),
    Below A₀ base [] h₀ → Fr h₀ L s.heap m → (Mine.hd.heap_39 w.params).In base → Top Mine.hd.view_39 (looseW Mine.hd.view_39 [Str.ofString "PostError"]) mean mg mb base → (Mine.hd.heap_39 w.params).In h₀ → News h₀ L s.heap news → Top Mine.hd.view_39 (looseW Mine.hd.view_39 [Str.ofString "PostError"]) mean mg mb h₀ → cs.kind = .function →
    pre → dp + k < recursionLimit → un + 20 * k < cLine → Ret base h₀ L m s Q →
    wpAny (model PySem.Challenge.rw_or0021_01.row.prog w) (ktrTop dp un gd cn cs L a ccd [] []) (call (.ref f) vs) Q E s
def theParts (x : Str) : List Str := Txt.split (Txt.slice x (some 0) (some (x.length : Int))) (Str.ofString "-")
def partOk (p : Str) : Bool := decide (p.length ≤ 100) && p.cps.toList.all (fun c => decide (c < 1000)) && (!isFigures p || (PySem.intText? p).isSome)
def okText (x : Str) : Bool := decide (x.length ≤ 100) && decide ((theParts x).length ≤ 100) && (theParts x).all partOk
def readDay (x : Str) : Option (Int × Int × Int) := match theParts x with
  | [a, b, c] => if (isFigures a && isFigures c && decide (a.length ≤ 2) && decide (c.length = 4) && isDay ((PySem.intText? c).getD 0) (monthNo b) ((PySem.intText? a).getD 0)) = true then some ((PySem.intText? c).getD 0, monthNo b, (PySem.intText? a).getD 0) else none
  | _ => none
theorem part_len {p : Str} (h : partOk p = true) : p.length ≤ 100 := by
  simp only [partOk, Bool.and_eq_true, decide_eq_true_eq] at h; exact h.1.1
theorem part_low {p : Str} (h : partOk p = true) : p.length ≤ 1000 ∧ ∀ c ∈ p.cps.toList, c < 1000 := by
  simp only [partOk, Bool.and_eq_true, decide_eq_true_eq, List.all_eq_true] at h; exact ⟨by omega, h.1.2⟩
theorem part_int {p : Str} (h : partOk p = true) (hf : isFigures p = true) : PySem.intText? p = some ((PySem.intText? p).getD 0) := by
  simp only [partOk, Bool.and_eq_true, hf, Bool.not_true, Bool.false_or] at h
  obtain ⟨n, hn⟩ := Option.isSome_iff_exists.mp h.2
  rw [hn]; rfl
theorem text_len {x : Str} (h : okText x = true) : x.length ≤ 100 := by
  simp only [okText, Bool.and_eq_true, decide_eq_true_eq] at h; exact h.1.1
section
variable {prog : Program} {w : World} {A : Around} {E : Value → Shared → Prop} {s : Shared} {h₀ : Heap} {L : Addr} {m : PySem.Str → Option Value} {news : List (Addr × Obj)} {x : PySem.Str} {t u : Tok} {Q : Value → Shared → Prop}
theorem split_text (hx : okText x = true) (hF : Fr h₀ L s.heap m) (hN : News h₀ L s.heap news) (hsz : (Txt.slice x (some 0) (some (x.length : Int))).length + 2 ≤ sizeLine)
    (h1 : ∀ D vs parts h' k, StrsAre vs parts → theParts x = parts → parts.length ≠ 3 → parts.length ≤ 100 → Fr h₀ L h' m → News h₀ L h' ((D, listOf vs.toArray 0) :: news) → (∀ p ∈ news, p.1 < D) → Q (.ref D) { s with heap := h', toks := k })
    (h2 : ∀ D a b c t1 t2 t3 h' k, theParts x = [a, b, c] → partOk a = true → partOk b = true → partOk c = true → Fr h₀ L h' m → News h₀ L h' ((D, listOf #[.str a t1, .str b t2, .str c t3] 0) :: news) → (∀ p ∈ news, p.1 < D) → Q (.ref D) { s with heap := h', toks := k }) :
    wpAny (model prog w) A (call (.builtin "str.split") [.str (Txt.slice x (some 0) (some (x.length : Int))) t, .str (Str.ofString "-") u]) Q E s := by
  simp only [okText, Bool.and_eq_true, decide_eq_true_eq, List.all_eq_true] at hx
  refine KSpl.split1 hF hN (by decide) (fun D l h' k e hs F N lt => ?_) hsz
  have e' : theParts x = l.map (·.1) := e.symm
  rw [e'] at hx
  by_cases h3 : l.length = 3
  · obtain ⟨p, q, r, rfl⟩ : ∃ p q r, l = [p, q, r] := by
      match l, h3 with
      | [p, q, r], _ => exact ⟨p, q, r, rfl⟩
    exact h2 D p.1 q.1 r.1 p.2 q.2 r.2 h' k e' (hx.2 p.1 (by simp)) (hx.2 q.1 (by simp)) (hx.2 r.1 (by simp)) F N lt
  · exact h1 D (strValues l) (l.map (·.1)) h' k hs e' (by rw [List.length_map]; exact h3) hx.1.2 F N lt
theorem part_at {value slice : PySem.Expr} {D : Addr} {k : Int} {n : Nat} {vs : Array Value} {v : Value} (hN : News h₀ L s.heap news) (hm : (D, listOf vs n) ∈ news) (h0 : 0 ≤ k) (h1 : k < 1000) (hx : vs.toList[k.toNat]? = some v) (h : Q v s)
    (hs : subscripted slice false (.ref D) (.int k u) = operate [.ref D, .int k u] (getItem (.ref D) (.int k u)) := by with_unfolding_all rfl) :
    wpAny (model prog w) A (subscriptTail value slice (.ref D) (.int k u)) Q E s :=
  item_litK (vs := vs.toList) (News.isList hN hm) h0 (by omega) hx h hs
theorem part_tp {value slice : PySem.Expr} {D : Addr} {k : Int} {vs : List Value} {v : Value} (hN : News h₀ L s.heap news) (hm : (D, tupObj vs) ∈ news) (h0 : 0 ≤ k) (h1 : k < 1000) (hx : vs[k.toNat]? = some v) (h : Q v s)
    (hs : subscripted slice false (.ref D) (.int k u) = operate [.ref D, .int k u] (getItem (.ref D) (.int k u)) := by with_unfolding_all rfl) :
    wpAny (model prog w) A (subscriptTail value slice (.ref D) (.int k u)) Q E s := by
  have hlt : k.toNat < vs.length := (List.getElem?_eq_some_iff.mp hx).1
  have hn : k < ((vs.toArray.size : Nat) : Int) := by rw [List.size_toArray]; omega
  have ht : IsTup s.heap D vs.toArray := News.isTup hN hm
  exact tail_any ht.typeIs slot_tuple_getitem.lookup (getItem_tuple ht (by omega) (by omega) (seqIndex_of h0 hn) (x := v) (by simpa using hx) h) hs
theorem ite_ine {a b : Int} {X Y : Prop} (h : a ≠ b) (x : X) : if (a != b) = true then X else Y := by rw [if_pos (by simpa using h)]; exact x
end
section
variable {x a b c : Str}
theorem rd_len {ps : List Str} (he : theParts x = ps) (h : ps.length ≠ 3) : readDay x = none := by
  unfold readDay; rw [he]
  match ps, h with
  | [], _ => rfl
  | [_], _ => rfl
  | [_, _], _ => rfl
  | [_, _, _], h => exact absurd rfl h
  | _ :: _ :: _ :: _ :: _, _ => rfl
theorem rd_a (he : theParts x = [a, b, c]) (h : isFigures a = false) : readDay x = none := by
  unfold readDay; rw [he]; simp [h]
theorem rd_c (he : theParts x = [a, b, c]) (h : isFigures c = false) : readDay x = none := by
  unfold readDay; rw [he]; simp [h]
theorem rd_la (he : theParts x = [a, b, c]) (h : (2 : Int) < a.length) : readDay x = none := by
  have : ¬ a.length ≤ 2 := by omega
  unfold readDay; rw [he]; simp [this]
theorem rd_lc (he : theParts x = [a, b, c]) (h : (c.length : Int) ≠ 4) : readDay x = none := by
  have : ¬ c.length = 4 := by omega
  unfold readDay; rw [he]; simp [this]
theorem rd_d (he : theParts x = [a, b, c]) (h : isDay ((PySem.intText? c).getD 0) (monthNo b) ((PySem.intText? a).getD 0) = false) : readDay x = none := by
  unfold readDay; rw [he]; simp [h]
theorem rd_some (he : theParts x = [a, b, c]) (h1 : isFigures a = true) (h2 : isFigures c = true) (h3 : ¬ (2 : Int) < a.length) (h4 : (c.length : Int) = 4) (h : isDay ((PySem.intText? c).getD 0) (monthNo b) ((PySem.intText? a).getD 0) = true) :
    readDay x = some ((PySem.intText? c).getD 0, monthNo b, (PySem.intText? a).getD 0) := by
  have h3 : a.length ≤ 2 := by omega
  have h4 : c.length = 4 := by omega
  unfold readDay; rw [he]; simp [h1, h2, h3, h4, h]
end
/-- what the hearing of read_day gives back -/
def HeardBack (x : Str) (news : List (Addr × Obj)) (h₀ : Heap) (L : Addr) (m : Str → Option Value) (s : Shared) (Q : Value → Shared → Prop) : Prop :=
  (readDay x = none → CbRet h₀ L m news s Q (fun _ => .none)) ∧
  ∀ y mo d, readDay x = some (y, mo, d) → ∀ (t1 t2 t3 : Tok) (D : Addr) (h' : Heap) (tk' : Nat), Fr h₀ L h' m → News h₀ L h' ((D, tupObj [.int y t1, .int mo t2, .int d t3]) :: news) → (∀ p ∈ news, p.1 < D) → Q (.ref D) { s with heap := h', toks := tk' }
section
theorem c_heard (w : World) (mean mg mb) (news) (x : Str) (t : Tok) : ClaimL w mean mg mb 20 169 news [.ref 133, .str x t] (okText x = true) (fun _ h₀ L m s Q => HeardBack x news h₀ L m s Q) := by
  unfold ClaimL; k_fill; dsimp only [HeardBack, CbRet]; intros; rename_i hret
  have hxl := text_len (by assumption : okText x = true)
  refine wpAny_call ?_
  (k_dflt (refine' code_defS0 (by k_asm) (by k_asm) (by k_asm) (by k_asm) (by k_asm) (by exact rfl) (by k_is) (by k_is) (by ktr_room) (by exact BindsTo.of_eq rfl) (by exact locs rfl) ?_ (by assumption) (by exact rfl) (by exact rfl) (by exact rfl) (by decide); k_whole; intro g' L' h' FG' F' N' B' X' T' D'; (try dsimp only); (try k_lift B'); (try k_fold)))
  k_with_none
  (k_with "own call ref" => (k_here; (with_reducible show wpAny _ _ (call (Value.ref 112) _) _ _ _); k_dflt (refine' Claim.use (c_is_figures _ _ _ _ _ _ _) ?_ ?_; (next => first | exact True.intro | assumption | omega)); ((dsimp only [CbRet]); intro t9 h9 tk9 F9 N9; (try dsimp only); (try k_fold))))
  (k_with "own call ref" => (k_here; (with_reducible show wpAny _ _ (call (Value.ref 100) _) _ _ _); k_dflt (refine' Claim.use (c_month_number _ _ _ _ _ _ _) ?_ ?_; (next => first | exact True.intro | assumption | omega)); ((dsimp only [CbRet]); intro t9 h9 tk9 F9 N9; (try dsimp only); (try k_fold))))
  (k_with "own call ref" => (k_here; (with_reducible show wpAny _ _ (call (Value.ref 95) _) _ _ _); k_dflt (refine' Claim.use (c_is_day _ _ _ _ _ _ _ _ _ _ _) ?_ ?_; (next => first | exact True.intro | assumption | omega)); ((dsimp only [CbRet]); intro t9 h9 tk9 F9 N9; (try dsimp only); (try k_fold))))
  (k_with "own exec Raise some none" => (k_here; k_dflt (refine Raise_w (C := 59) (by rfl) ?_)))
  (k_with "own WordMade" => (k_here; k_dflt (refine' WordMade.intro (by exact Frag.In.keeps (by with_reducible assumption) (Fr.keep (by with_reducible assumption))) (by kts_isx) (by exact (News.get (by with_reducible assumption) (List.Mem.head _))) ?_)))
  (k_with "own leaving ref" => (k_here; (with_reducible rename KtsDicts _ _ => kdX); k_dflt (refine' leave_wordS (by k_asm) (by k_asm) (by k_asm) (by assumption) (by assumption) ?_); intro h' S' R' U'; (try dsimp only at S' R' U' ⊢)))
  (k_with "own call builtin:len" => (k_here; k_dflt (refine' len_strsA (by exact News.isList (by k_asm) (by k_mem)) (by assumption) (by omega) ?_)))
  (k_with "own subscriptTail Name Constant ref int" => (k_here; k_dflt (first | (refine' part_at (by with_reducible assumption) (by repeat (first | with_reducible exact List.mem_cons_self | with_reducible refine List.mem_cons_of_mem _ ?_)) (by decide) (by decide) (by rfl) ?_) | (refine' part_tp (by with_reducible assumption) (by repeat (first | with_reducible exact List.mem_cons_self | with_reducible refine List.mem_cons_of_mem _ ?_)) (by decide) (by decide) (by rfl) ?_))))
  (k_with "own call type:int" => (k_here; k_dflt (refine' KIN.call_text (part_int (by assumption) (by assumption)) (by omega) ?_)))
  (k_with "own call ref" => (k_here; (with_reducible show wpAny _ _ (call (Value.ref 59) _) _ _ _); k_dflt (refine' Claim.use (c_word2 _ _ _ _ _ _ _ _ _) True.intro ?_); intro e9 t9 d9 h9 tk9 F9 N9 l9 k9; (try dsimp only); (try k_fold)))
  (k_with "own call ref" => (k_here; (first | (with_reducible show wpAny _ _ (call (Value.ref 133) _) _ _ _) | (with_reducible show wpAny _ _ (call (Value.ref 126) _) _ _ _)); (refine wpAny_call ?_); (k_dflt (refine' code_def (by k_asm) (by k_asm) (by k_asm) (by k_asm) (by k_asm) (by exact rfl) (by exact rfl) (by first | exact rfl | assumption) (by k_is) (by k_is) (by ktr_room) (by exact BindsTo.of_eq rfl) (by exact locs rfl) ?_ (by exact rfl) (by exact rfl) (by exact rfl) (by decide); k_whole; intro g' L' h' FG' F' N' B' X' T'; (try dsimp only); (try k_lift B'); (try k_fold)))))
  (k_with "own call builtin:str.split" => (k_here; k_dflt (refine' split_text (by assumption) (by k_asm) (by k_asm) (by (rw [sizeLine_eq]; omega)) ?_ ?_); all_goals first | (intro D' a' b' c' t1' t2' t3' h' k' he' ha' hb' hc' F' N' l'; (have ka' := part_len ha'); (have kc' := part_len hc'); (have kb' := part_low hb')) | (intro D' vs' ps' h' k' hs' he' hn' hl' F' N' l'; (have kz' := hs'.length); (have kn' : ((List.length ps' : Nat) : Int) ≠ 3 := by omega))))
  (k_with "own ite" => (k_here; with_reducible refine ite_ine (by with_reducible assumption) ?_))
  k_steps
  all_goals k_dflt first
    | (refine hret.1 ?zr 0 _ _ ?zf ?zn; (case zf => with_reducible assumption); (case zn => first | with_reducible assumption | (refine cb_drop (by with_reducible assumption) ?_; intro p hp; first | with_reducible exact hp | with_reducible exact List.mem_cons_of_mem _ hp | with_reducible exact List.mem_cons_of_mem _ (List.mem_cons_of_mem _ hp))); (case zr => first | with_reducible exact rd_len (by assumption) (by assumption) | with_reducible exact rd_a (by assumption) (by assumption) | with_reducible exact rd_c (by assumption) (by assumption) | with_reducible exact rd_la (by assumption) (by assumption) | with_reducible exact rd_lc (by assumption) (by assumption) | with_reducible exact rd_d (by assumption) (by assumption)))
    | (refine' hret.2 _ _ _ (rd_some ?a1 ?a2 ?a3 ?a4 ?a5 ?a6) _ _ _ _ _ _ ?b1 (news_made ?b2) ?b3; (case b2 => with_reducible assumption); (case a1 => with_reducible assumption); (case a2 => with_reducible assumption); (case a3 => with_reducible assumption); (case a4 => with_reducible assumption); (case a5 => with_reducible assumption); (case a6 => with_reducible assumption); (case b1 => with_reducible assumption); (case b3 => (rename _ ∧ AllLt _ _ => q9; exact ktn_ltOf q9.2)))
end
end
section
section
variable {prog : Program} {w : World} {A : Around} {E : Value → Shared → Prop} {s : Shared} {h₀ : Heap} {L : Addr} {m : PySem.Str → Option Value} {news : List (Addr × Obj)}
theorem adjust_to (b n : Nat) (hb : b ≤ n) : Builtin.Slice.sliceAdjust none (some (b : Int)) 1 (n : Int) = ((0 : Int), (b : Int)) := by
  unfold Builtin.Slice.sliceAdjust
  have h1 : ¬ ((1 : Int) < 0) := by omega
  have h2 : ¬ ((b : Int) < 0) := by omega
  simp only [h1, h2, if_false]
  congr 1
  omega
theorem places_to (b : Nat) : Builtin.Slice.slicePlaces (0 : Int) (b : Int) 1 = b := by
  unfold Builtin.Slice.slicePlaces
  have h1 : (1 : Int) > 0 := by omega
  simp only [h1, if_true, Int.ediv_one]
  split <;> omega
theorem sliceApplied_to {sl : Addr} {b n : Nat} {u : Tok} {Q : Int × Int × Nat → Shared → Prop} (hs : s.heap.IsSliceOf sl .none (.int b u) .none) (hb : b ≤ n) (h : Q ((0 : Int), 1, b) s) :
    wpAny (model prog w) A (Builtin.Slice.sliceApplied (.ref sl) (pure (n : Int))) Q E s := by
  obtain ⟨os, hos, hcs, hds⟩ := id hs
  unfold Builtin.Slice.sliceApplied Builtin.Slice.sliceFields
  refine wpAny_bind (wpAny_bind (wpAny_field hos hds (x := .none) rfl (wpAny_bind (wpAny_field hos hds (x := .int b u) rfl (wpAny_bind (wpAny_field hos hds (x := .none) rfl (wpAny_pure ?_)))))))
  refine wpAny_bind (slicePart_none ?_)
  show wpAny _ _ (if ((1 : Int) == 0) = true then _ else _) _ _ s
  rw [if_neg (by decide)]
  refine wpAny_bind (slicePart_none (wpAny_bind (slicePart_int (wpAny_bind (wpAny_pure ?_)))))
  show wpAny _ _ (match Builtin.Slice.sliceAdjust none (some (b : Int)) 1 (n : Int) with | (lo, hi) => pure (lo, (1 : Int), Builtin.Slice.slicePlaces lo hi 1)) _ _ s
  rw [adjust_to b n hb]
  show wpAny _ _ (pure ((0 : Int), (1 : Int), Builtin.Slice.slicePlaces (0 : Int) (b : Int) 1)) _ _ s
  rw [places_to b]
  exact wpAny_pure h
theorem pick_to (xs : Array Value) (b : Nat) : ((List.range b).filterMap fun (k : Nat) => xs[((0 : Int) + (k : Int) * 1).toNat]?).toArray = (xs.toList.take b).toArray := by
  have e : (fun (k : Nat) => xs[((0 : Int) + (k : Int) * 1).toNat]?) = fun k => xs[0 + k]? := by
    funext k
    have : ((0 : Int) + (k : Int) * 1).toNat = 0 + k := by omega
    rw [this]
  rw [e]
  have := pick_run xs 0 b
  rw [List.filterMap_map] at this
  have e2 : ((fun x => xs[x]?) ∘ fun x => 0 + x) = fun k => xs[0 + k]? := rfl
  rw [e2] at this
  rw [this, List.drop_zero]
theorem getItem_tuple_to {t sl : Addr} {items : Array Value} {b : Nat} {u : Tok} {Q : Value → Shared → Prop} (ht : IsTup s.heap t items) (hs : s.heap.IsSliceOf sl .none (.int b u) .none) (hb : b < items.size)
    (h : Q (.ref s.heap.objs.size) { s with heap := s.heap.push { cls := .type "tuple", data := .seq (items.toList.take b).toArray } })
    (hsz : items.size ≤ sizeLine) : wpAny (model prog w) A (getItem (.ref t) (.ref sl)) Q E s := by
  have hdrop : sizeOk (.seq (items.toList.take b).toArray) := by
    show (items.toList.take b).toArray.size ≤ sizeLine
    rw [List.size_toArray, List.length_take, Array.length_toList]
    omega
  obtain ⟨os, hos, hcs, hds⟩ := id hs
  have hTs : s.TypeIs (.ref sl) "slice" := ⟨os, hos, hcs⟩
  unfold getItem
  try with_reducible refine wpAny_holding ?_
  first | refine wpAny_bind (wpAny_pure ?_) | skip
  refine wpAny_bind (wpAny_sequenceKey ht.typeIs (by decide) ?_)
  refine wpAny_bind (wpAny_callSpecial?_slot (name := Str.ofString "__getitem__") ht.typeIs slot_tuple_getitem
    (wpAny_call_entry slot_tuple_getitem ht.typeIs entry_tuple_getitem ?_ (args_tuple_getitem _ _)))
  show wpAny _ _ (Builtin.Tuple.tupleItemsOf (.ref t) >>= _) _ _ s
  refine wpAny_bind (tupleItemsOf_ ht ?_)
  refine wpAny_bind (wpAny_typeOf hTs ?_)
  rw [if_pos (by decide)]
  refine wpAny_bind (sliceApplied_to hs (Nat.le_of_lt hb) ?_)
  have hno : ¬ (((0 : Int) == 0 && (1 : Int) == 1 && b == items.size) = true) := by
    have : (b == items.size) = false := by rw [beq_eq_false_iff_ne]; omega
    rw [this]; simp
  show wpAny _ _ (if ((0 : Int) == 0 && (1 : Int) == 1 && b == items.size) = true then _ else _) _ _ s
  rw [if_neg hno, pick_to items b]
  first
    | exact wpAny_bind (m := Builtin.Tuple.tupleExact _) (wpAny_newObj_type (wpAny_pure ⟨_, rfl, wpAny_pure h⟩) hdrop)
    | exact wpAny_bind (m := Builtin.Tuple.tupleExact _) (wpAny_newObj_type (wpAny_bind (wpAny_pure (wpAny_pure ⟨_, rfl, wpAny_pure h⟩))) hdrop)
    | exact wpAny_bind (wpAny_bind (m := Builtin.Tuple.tupleExact _) (wpAny_newObj_type (wpAny_pure (wpAny_pure ⟨_, rfl, wpAny_pure h⟩)) hdrop))
    | exact wpAny_bind (wpAny_bind (m := Builtin.Tuple.tupleExact _) (wpAny_newObj_type (wpAny_pure ⟨_, rfl, wpAny_pure h⟩) hdrop))
theorem StrsAre.take' {vs : List Value} {ws : List PySem.Str} (h : StrsAre vs ws) (b : Nat) : StrsAre (vs.take b) (ws.take b) := by
  induction h generalizing b with
  | nil => simp only [List.take_nil]; exact StrsAre.nil
  | cons x t h ih =>
    cases b with
    | zero => exact StrsAre.nil
    | succ b => exact StrsAre.cons x t (ih b)
theorem slice_strs_to {value slice : Expr} {t : Addr} {vs : List Value} {ws : List PySem.Str} {bi : Int} {u : Tok} {Q : Value → Shared → Prop}
    (F : Fr h₀ L s.heap m) (N : News h₀ L s.heap news) (ht : IsTup s.heap t vs.toArray) (hw : StrsAre vs ws) (h0 : 0 ≤ bi) (h1 : bi < (vs.length : Int)) (hz : vs.length ≤ 1000)
    (h : ∀ D (us : List Value) h', StrsAre us (ws.take bi.toNat) → Fr h₀ L h' m → News h₀ L h' ((D, tupObj us) :: news) → (∀ p ∈ news, p.1 < D) → Q (.ref D) { s with heap := h' })
    (hs : subscripted slice false (.ref t) (.ref s.heap.objs.size) = operate [.ref s.heap.objs.size, .ref t] (getItem (.ref t) (.ref s.heap.objs.size)) := by with_unfolding_all rfl)
    (hg : ∀ r, letTemporaryGo value (.ref t) r = pure () := by intro _; with_unfolding_all rfl) :
    wpAny (model prog w) A (subscriptTail value slice (.ref t) (.ref s.heap.objs.size)) Q E { s with heap := s.heap.push { cls := .type "slice", data := .fields #[.none, .int bi u, .none] } } := by
  obtain ⟨b, rfl⟩ : ∃ b : Nat, bi = (b : Int) := ⟨bi.toNat, by omega⟩
  have ht' : IsTup (s.heap.push { cls := .type "slice", data := .fields #[.none, .int b u, .none] }) t vs.toArray := ht.keeps fun _ _ e => Heap.get?_push_of_some _ e
  refine subscriptTail_ops (s := { s with heap := s.heap.push { cls := .type "slice", data := .fields #[.none, .int b u, .none] } }) ht'.typeIs slot_tuple_getitem.lookup
    (getItem_tuple_to ht' (Heap.IsSliceOf.new ..) (by rw [List.size_toArray]; omega) ?_ (by rw [List.size_toArray, sizeLine_eq]; omega)) hs hg
  have N1 := News.push (F.push { cls := .type "slice", data := .fields #[.none, .int b u, .none] }) (N.grown fun _ _ e => Heap.get?_push_of_some _ e) { cls := .type "tuple", data := .seq (vs.toArray.toList.take b).toArray }
  rw [Heap.size_push] at N1
  show Q (.ref (s.heap.push _).objs.size) _
  rw [Heap.size_push]
  have e : ((b : Int)).toNat = b := Int.toNat_natCast b
  exact h _ (vs.take b) _ (by rw [e]; exact StrsAre.take' hw b) ((F.push _).push _) N1 (fun p hp => Nat.lt_succ_of_lt (Heap.lt_size (N p hp).1))
end
end
section
def lawDays : List Str := [Str.ofString "1", Str.ofString "01", Str.ofString "29", Str.ofString "30", Str.ofString "31", Str.ofString "0", Str.ofString "32", Str.ofString "032", Str.ofString "", Str.ofString "x"]
def lawMonths : List Str := [Str.ofString "Feb", Str.ofString "feb", Str.ofString "FEB", Str.ofString "Apr", Str.ofString "dec", Str.ofString "Fe", Str.ofString "Febr", Str.ofString "", Str.ofString "13"]
def lawYears : List Str := [Str.ofString "2024", Str.ofString "1900", Str.ofString "0001", Str.ofString "9999", Str.ofString "0000", Str.ofString "994", Str.ofString "02024", Str.ofString "", Str.ofString "2o24"]
def monthIn (m : Str) : Int := if m == Str.ofString "Apr" then 4 else if m == Str.ofString "dec" then 12 else 2
def mostIn (n : Int) (y : Str) : Int := if n = 4 then 30 else if n = 12 then 31 else if y == Str.ofString "2024" then 29 else 28
def told (d m y : Str) : Option (Int × Int × Int) :=
  if (lawDays.take 5).any (· == d) && (lawMonths.take 5).any (· == m) && (lawYears.take 4).any (· == y) && decide ((PySem.intText? d).getD 0 ≤ mostIn (monthIn m) y) then some ((PySem.intText? y).getD 0, monthIn m, (PySem.intText? d).getD 0) else none
theorem days_int {d : Str} (h : (lawDays.take 5).any (· == d) = true) : PySem.intText? d = some ((PySem.intText? d).getD 0) ∧ d.length ≤ 640 := by
  obtain ⟨e, he, hd⟩ := List.any_eq_true.mp h
  rw [← eq_of_beq hd]
  exact (by decide +kernel : ∀ e ∈ lawDays.take 5, PySem.intText? e = some ((PySem.intText? e).getD 0) ∧ e.length ≤ 640) e he
theorem years_int {d : Str} (h : (lawYears.take 4).any (· == d) = true) : PySem.intText? d = some ((PySem.intText? d).getD 0) ∧ d.length ≤ 640 := by
  obtain ⟨e, he, hd⟩ := List.any_eq_true.mp h
  rw [← eq_of_beq hd]
  exact (by decide +kernel : ∀ e ∈ lawYears.take 4, PySem.intText? e = some ((PySem.intText? e).getD 0) ∧ e.length ≤ 640) e he
theorem months_low {m : Str} (h : (lawMonths.take 5).any (· == m) = true) : m.length ≤ 640 ∧ (Txt.lower m = Str.ofString "feb" ∧ monthIn m = 2 ∨ Txt.lower m = Str.ofString "apr" ∧ monthIn m = 4 ∨ Txt.lower m = Str.ofString "dec" ∧ monthIn m = 12) := by
  obtain ⟨e, he, hd⟩ := List.any_eq_true.mp h
  rw [← eq_of_beq hd]
  exact (by decide +kernel : ∀ m ∈ lawMonths.take 5, m.length ≤ 640 ∧ (Txt.lower m = Str.ofString "feb" ∧ monthIn m = 2 ∨ Txt.lower m = Str.ofString "apr" ∧ monthIn m = 4 ∨ Txt.lower m = Str.ofString "dec" ∧ monthIn m = 12)) e he
theorem lower_three {prog : Program} {w : World} {A : Around} {E : Value → Shared → Prop} {s : Shared} {x : Str} {t : Tok} {Q : Value → Shared → Prop} (hx : (lawMonths.take 5).any (· == x) = true)
    (h1 : ∀ t' k', monthIn x = 2 → Q (.str (Str.ofString "feb") t') { s with toks := k' }) (h2 : ∀ t' k', monthIn x = 4 → Q (.str (Str.ofString "apr") t') { s with toks := k' }) (h3 : ∀ t' k', monthIn x = 12 → Q (.str (Str.ofString "dec") t') { s with toks := k' }) :
    wpAny (model prog w) A (call (.builtin "str.lower") [.str x t]) Q E s := by
  obtain ⟨hl, hm⟩ := months_low hx
  refine SCL.lower (by omega) fun _ => ?_
  rcases hm with ⟨e, q⟩ | ⟨e, q⟩ | ⟨e, q⟩
  · rw [e]; exact h1 _ _ q
  · rw [e]; exact h2 _ _ q
  · rw [e]; exact h3 _ _ q
def ToldBack (d mo y : Str) (news : List (Addr × Obj)) (h₀ : Heap) (L : Addr) (m : Str → Option Value) (s : Shared) (Q : Value → Shared → Prop) : Prop :=
  (told d mo y = none → CbRet h₀ L m news s Q (fun _ => .none)) ∧
  ∀ a b c, told d mo y = some (a, b, c) → ∀ (t1 t2 t3 : Tok) (D : Addr) (h' : Heap) (tk' : Nat), Fr h₀ L h' m → News h₀ L h' ((D, tupObj [.int a t1, .int b t2, .int c t3]) :: news) → (∀ p ∈ news, p.1 < D) → Q (.ref D) { s with heap := h', toks := tk' }
theorem getItem_lit {prog : Program} {w : World} {K : Type} [DecidableEq K] {knd : KeyKind prog w K} {enc : K → PyData} {A : Around} {E : Value → Shared → Prop} {s : Shared} {d : Addr} {D : List (PyData × PyData)} {k : K} {key : Value} {i : Int}
    {Q : Value → Shared → Prop} (henc : ∀ a b, PySem.Spec.same (enc a) (enc b) = decide (a = b)) (hkey : knd.is k key = true) (T : TabAt knd enc s.heap d D) (hl : PySem.Spec.lookup (enc k) D = some (PyData.int i))
    (h : ∀ t, Q (.int i t) { s with toks := s.toks + 1 }) : wpAny (model prog w) A (getItem (.ref d) key) Q E s :=
  getItem_tab henc hkey T hl fun v hv => by obtain ⟨t, rfl⟩ := PyProof.V.Flat.int_inv hv; exact h t
theorem ite_any {α : Type} {xs : List α} {f : α → Bool} {A B : Prop} (h1 : xs.any f = false → A) (h2 : xs.any f = true → B) : if (!(xs.any f)) = true then A else B := by
  cases e : xs.any f with
  | false => exact h1 e
  | true => exact h2 e
section
variable {d m y : Str} {n k : Int}
theorem told_d (h : (lawDays.take 5).any (· == d) = false) : told d m y = none := by unfold told; rw [h]; rfl
theorem told_m (h : (lawMonths.take 5).any (· == m) = false) : told d m y = none := by unfold told; rw [h, Bool.and_false]; rfl
theorem told_y (h : (lawYears.take 4).any (· == y) = false) : told d m y = none := by unfold told; rw [h, Bool.and_false]; rfl
theorem told_gt (hm : monthIn m = n) (hk : mostIn n y = k) (h : ¬ (PySem.intText? d).getD 0 ≤ k) : told d m y = none := by
  unfold told; rw [hm, hk, decide_eq_false h, Bool.and_false]; rfl
theorem told_le (h1 : (lawDays.take 5).any (· == d) = true) (h2 : (lawMonths.take 5).any (· == m) = true) (h3 : (lawYears.take 4).any (· == y) = true) (hm : monthIn m = n) (hk : mostIn n y = k) (h : (PySem.intText? d).getD 0 ≤ k) :
    told d m y = some ((PySem.intText? y).getD 0, n, (PySem.intText? d).getD 0) := by
  unfold told; rw [h1, h2, h3, hm, hk, decide_eq_true h]; rfl
theorem most_29 (h : (y == Str.ofString "2024") = true) : mostIn 2 y = 29 := by unfold mostIn; rw [h]; rfl
theorem most_28 (h : (y == Str.ofString "2024") = false) : mostIn 2 y = 28 := by unfold mostIn; rw [h]; rfl
theorem news_first {h₀ : Heap} {L e : Addr} {h : Heap} {o : Obj} {news tl : List (Addr × Obj)} (N : News h₀ L h ((e, o) :: tl)) (hs : ∀ p ∈ news, p ∈ tl) : News h₀ L h ((e, o) :: news) := fun p hp => by
  rcases List.mem_cons.mp hp with rfl | hp
  · exact N _ (.head _)
  · exact N p (.tail _ (hs p hp))
end
section
local macro_rules | `(tactic| walk_at "call type:int") => `(tactic| (k_here; k_dflt first
  | (refine' KIN.call_text (And.left (days_int ?h)) (And.right (days_int ?h)) ?_; (case h => assumption))
  | (refine' KIN.call_text (And.left (years_int ?h)) (And.right (years_int ?h)) ?_; (case h => assumption))))
theorem c_told (w : World) (mean mg mb) (news) (d mo y : Str) (t u v : Tok) : Claim w mean mg mb 4 162 news [.str d t, .str mo u, .str y v] True (fun _ h₀ L m s Q => ToldBack d mo y news h₀ L m s Q) := by
  unfold Claim; k_fill; dsimp only [ToldBack, CbRet]; intros; rename_i hret
  refine wpAny_call ?_
  (k_dflt cell_enter)
  k_with_none
  (k_with "own subscriptTail Name Slice ref ref" => (k_here; (with_reducible show wpAny _ _ (subscriptTail _ _ (Value.ref 153) (Value.ref _)) _ _ _); k_dflt (refine' slice_strs_to (ws := lawDays) (by k_asm) (by k_asm) (tupK (by exact Frag.In.keeps (by k_asm) (Fr.keep (by k_asm))) (by k_is)) (by (repeat (first | exact StrsAre.nil | refine StrsAre.cons _ _ ?_))) (by decide) (by exact Int.lt_of_lt_of_le (by decide) (Int.le_refl _)) (by exact Nat.le_of_ble_eq_true rfl) ?_); intro D' us' h' hs' F' N' l'))
  (k_with "own subscriptTail Name Slice ref ref" => (k_here; (with_reducible show wpAny _ _ (subscriptTail _ _ (Value.ref 154) (Value.ref _)) _ _ _); k_dflt (refine' slice_strs_to (ws := lawMonths) (by k_asm) (by k_asm) (tupK (by exact Frag.In.keeps (by k_asm) (Fr.keep (by k_asm))) (by k_is)) (by (repeat (first | exact StrsAre.nil | refine StrsAre.cons _ _ ?_))) (by decide) (by exact Int.lt_of_lt_of_le (by decide) (Int.le_refl _)) (by exact Nat.le_of_ble_eq_true rfl) ?_); intro D' us' h' hs' F' N' l'))
  (k_with "own subscriptTail Name Slice ref ref" => (k_here; (with_reducible show wpAny _ _ (subscriptTail _ _ (Value.ref 155) (Value.ref _)) _ _ _); k_dflt (refine' slice_strs_to (ws := lawYears) (by k_asm) (by k_asm) (tupK (by exact Frag.In.keeps (by k_asm) (Fr.keep (by k_asm))) (by k_is)) (by (repeat (first | exact StrsAre.nil | refine StrsAre.cons _ _ ?_))) (by decide) (by exact Int.lt_of_lt_of_le (by decide) (Int.le_refl _)) (by exact Nat.le_of_ble_eq_true rfl) ?_); intro D' us' h' hs' F' N' l'))
  (k_with "own compareOp NotIn str ref" => (k_here; k_dflt (refine' notin_tuple_strs (by exact News.isTup (by k_asm) (by k_mem)) (by assumption) ?_)))
  (k_with "own call builtin:str.lower" => (k_here; k_dflt (refine' lower_three (by assumption) ?_ ?_ ?_); all_goals (intro t' k' hm')))
  (k_with "own getItem ref str" => (k_here; k_dflt (first | (refine' getItem_lit (i := 2) PyProof.V.same_str (strKind_is _ _ _ _) (by k_tabat) (by rfl) ?_; k_whole) | (refine' getItem_lit (i := 4) PyProof.V.same_str (strKind_is _ _ _ _) (by k_tabat) (by rfl) ?_; k_whole) | (refine' getItem_lit (i := 12) PyProof.V.same_str (strKind_is _ _ _ _) (by k_tabat) (by rfl) ?_; k_whole)); intro tf'))
  (k_with "own getItem ref int" => (k_here; k_dflt (first | (refine' getItem_lit (i := 29) PyProof.V.same_int (intKind_is _ _ _ _) (by k_tabat) (by rfl) ?_; k_whole) | (refine' getItem_lit (i := 28) PyProof.V.same_int (intKind_is _ _ _ _) (by k_tabat) (by rfl) ?_; k_whole) | (refine' getItem_lit (i := 30) PyProof.V.same_int (intKind_is _ _ _ _) (by k_tabat) (by rfl) ?_; k_whole) | (refine' getItem_lit (i := 31) PyProof.V.same_int (intKind_is _ _ _ _) (by k_tabat) (by rfl) ?_; k_whole)); intro tf'))
  (k_with "own ite" => (k_here; first | with_reducible refine ite_ff ?_ | with_reducible refine ite_tt ?_))
  (k_with "own ite" => (k_here; refine ite_any (fun qa' => ?_) (fun qa' => ?_)))
  k_steps
  all_goals k_dflt first
    | (refine hret.1 ?_ 0 _ _ (by k_asm) (by first | k_asm | (refine cb_drop (by assumption) ?_; intro p hp; (repeat (first | exact hp | refine .tail _ ?_)))); first | exact told_d (by assumption) | exact told_m (by assumption) | exact told_y (by assumption) | exact told_gt (by assumption) (most_29 (by assumption)) (by assumption) | exact told_gt (by assumption) (most_28 (by assumption)) (by assumption) | exact told_gt (k := 30) (by assumption) rfl (by assumption) | exact told_gt (k := 31) (by assumption) rfl (by assumption))
    | (refine' hret.2 _ _ _ ?a1 _ _ _ _ _ _ ?b1 (news_first ?b2 ?b4) ?b3; (case b2 => assumption); (case a1 => first | exact told_le (by assumption) (by assumption) (by assumption) (by assumption) (most_29 (by assumption)) (by assumption) | exact told_le (by assumption) (by assumption) (by assumption) (by assumption) (most_28 (by assumption)) (by assumption) | exact told_le (k := 30) (by assumption) (by assumption) (by assumption) (by assumption) rfl (by assumption) | exact told_le (k := 31) (by assumption) (by assumption) (by assumption) (by assumption) rfl (by assumption)); (case b1 => k_asm); (case b4 => intro p hp; (repeat (first | exact hp | refine .tail _ ?_))); (case b3 => (rename _ ∧ _ ∧ _ ∧ _ ∧ _ ∧ AllLt _ _ => q9; exact ktn_ltOf q9.2.2.2.2.2)))
end
end
section
section
variable {prog : Program} {w : World} {A : Around} {E : Value → Shared → Prop} {s : Shared}
theorem tup_at {value slice : Expr} {l : Addr} {vs : List Value} {i : Int} {u : Tok} {x : Value} {Q : Value → Shared → Prop} (ht : IsTup s.heap l vs.toArray) (h0 : 0 ≤ i) (h1 : i < 1000) (hx : vs[i.toNat]? = some x) (hQ : Q x s)
    (hs : subscripted slice false (.ref l) (.int i u) = operate [.ref l, .int i u] (getItem (.ref l) (.int i u)) := by with_unfolding_all rfl) :
    wpAny (model prog w) A (subscriptTail value slice (.ref l) (.int i u)) Q E s := by
  have hlt : i.toNat < vs.length := by
    obtain ⟨h, _⟩ := List.getElem?_eq_some_iff.mp hx
    exact h
  have hn : i < ((vs.toArray.size : Nat) : Int) := by rw [List.size_toArray]; omega
  exact tail_any ht.typeIs slot_tuple_getitem.lookup (getItem_tuple ht (by omega) (by omega) (seqIndex_of h0 hn) (x := x) (by simpa using hx) hQ) hs
end
theorem isDay_bounds {y m d : Int} (h : isDay y m d = true) : 0 ≤ y ∧ y ≤ 9999 ∧ 1 ≤ m ∧ m ≤ 12 ∧ 0 ≤ d ∧ d ≤ 99 := by
  unfold isDay at h
  simp only [Bool.and_eq_true, decide_eq_true_eq] at h
  have hl : monthLen y m ≤ 31 := by unfold monthLen; (repeat split) <;> omega
  omega
theorem rd_no {x : Str} {v : Int × Int × Int} {P : Prop} (h : readDay x = some v) (h' : readDay x = none) : P := by rw [h] at h'; cases h'
section
theorem c_write (w : World) (mean mg mb) (news) (T : Addr) (y m d : Int) (t1 t2 t3 : Tok) : Claim w mean mg mb 5 140 news [.ref T] ((T, tupObj [.int y t1, .int m t2, .int d t3]) ∈ news ∧ isDay y m d = true) (fun _ h₀ L mm s Q => CbRet h₀ L mm news s Q (fun tt => .str (dayText y m d) tt)) := by
  unfold Claim; k_fill; dsimp only [CbRet]; intros; rename_i hret
  (rename _ ∧ _ => hpre)
  obtain ⟨hT, hday⟩ := hpre
  have hb := isDay_bounds hday
  refine wpAny_call ?_
  (k_dflt cell_enter)
  k_with_none
  (k_with "own call ref" => (k_here; (with_reducible show wpAny _ _ (call (Value.ref 95) _) _ _ _); k_dflt (refine' Claim.use (c_is_day _ _ _ _ _ _ _ _ _ _ _) ?_ ?_; (next => first | exact True.intro | assumption | omega)); ((dsimp only [CbRet]); intro t9 h9 tk9 F9 N9; (try dsimp only); (try k_fold))))
  (k_with "own call ref" => (k_here; (with_reducible show wpAny _ _ (call (Value.ref 119) _) _ _ _); k_dflt (refine' Claim.use (c_day_text _ _ _ _ _ _ _ _ _ _ _) ?_ ?_; (next => first | exact True.intro | assumption | omega)); ((dsimp only [CbRet]); intro t9 h9 tk9 F9 N9; (try dsimp only); (try k_fold))))
  (k_with "own exec Raise some none" => (k_here; k_dflt (refine Raise_w (C := 59) (by rfl) ?_)))
  (k_with "own WordMade" => (k_here; k_dflt (refine' WordMade.intro (by exact Frag.In.keeps (by with_reducible assumption) (Fr.keep (by with_reducible assumption))) (by kts_isx) (by exact (News.get (by with_reducible assumption) (List.Mem.head _))) ?_)))
  (k_with "own leaving ref" => (k_here; (with_reducible rename KtsDicts _ _ => kdX); k_dflt (refine' leave_wordS (by k_asm) (by k_asm) (by k_asm) (by assumption) (by assumption) ?_); intro h' S' R' U'; (try dsimp only at S' R' U' ⊢)))
  (k_with "own subscriptTail Name Constant ref int" => (k_here; k_dflt (refine' tup_at (News.isTup (by k_asm) (by assumption)) (by decide) (by decide) (by rfl) ?_)))
  k_steps
  all_goals first
    | (refine cb_retS hret ?_ (by k_asm) (by k_asm); rfl)
    | skip
theorem c_heardw (w : World) (mean mg mb) (news) (T : Addr) (y m d : Int) (t1 t2 t3 : Tok) : ClaimL w mean mg mb 20 169 news [.ref 140, .ref T] ((T, tupObj [.int y t1, .int m t2, .int d t3]) ∈ news ∧ isDay y m d = false) (fun _ h₀ L m s Q => CbRet h₀ L m news s Q (fun _ => .none)) := by
  unfold ClaimL; k_fill; dsimp only [CbRet]; intros; rename_i hret
  (rename _ ∧ _ => hpre)
  obtain ⟨hT, hday⟩ := hpre
  refine wpAny_call ?_
  (k_dflt (refine' code_defS0 (by k_asm) (by k_asm) (by k_asm) (by k_asm) (by k_asm) (by exact rfl) (by k_is) (by k_is) (by ktr_room) (by exact BindsTo.of_eq rfl) (by exact locs rfl) ?_ (by assumption) (by exact rfl) (by exact rfl) (by exact rfl) (by decide); k_whole; intro g' L' h' FG' F' N' B' X' T' D'; (try dsimp only); (try k_lift B'); (try k_fold)))
  k_with_none
  (k_with "own call ref" => (k_here; (with_reducible show wpAny _ _ (call (Value.ref 95) _) _ _ _); k_dflt (refine' Claim.use (c_is_day _ _ _ _ _ _ _ _ _ _ _) ?_ ?_; (next => first | exact True.intro | assumption | omega)); ((dsimp only [CbRet]); intro t9 h9 tk9 F9 N9; (try dsimp only); (try k_fold))))
  (k_with "own call ref" => (k_here; (with_reducible show wpAny _ _ (call (Value.ref 119) _) _ _ _); k_dflt (refine' Claim.use (c_day_text _ _ _ _ _ _ _ _ _ _ _) ?_ ?_; (next => first | exact True.intro | assumption | omega)); ((dsimp only [CbRet]); intro t9 h9 tk9 F9 N9; (try dsimp only); (try k_fold))))
  (k_with "own exec Raise some none" => (k_here; k_dflt (refine Raise_w (C := 59) (by rfl) ?_)))
  (k_with "own WordMade" => (k_here; k_dflt (refine' WordMade.intro (by exact Frag.In.keeps (by with_reducible assumption) (Fr.keep (by with_reducible assumption))) (by kts_isx) (by exact (News.get (by with_reducible assumption) (List.Mem.head _))) ?_)))
  (k_with "own leaving ref" => (k_here; (with_reducible rename KtsDicts _ _ => kdX); k_dflt (refine' leave_wordS (by k_asm) (by k_asm) (by k_asm) (by assumption) (by assumption) ?_); intro h' S' R' U'; (try dsimp only at S' R' U' ⊢)))
  (k_with "own subscriptTail Name Constant ref int" => (k_here; k_dflt (refine' tup_at (News.isTup (by k_asm) (by assumption)) (by decide) (by decide) (by rfl) ?_)))
  (k_with "own call ref" => (k_here; (with_reducible show wpAny _ _ (call (Value.ref 59) _) _ _ _); k_dflt (refine' Claim.use (c_word1 _ _ _ _ _ _ _) True.intro ?_); intro e9 t9 d9 h9 tk9 F9 N9 l9 k9; (try dsimp only); (try k_fold)))
  (k_with "own call ref" => (k_here; (with_reducible show wpAny _ _ (call (Value.ref 140) _) _ _ _); (refine wpAny_call ?_); (k_dflt (refine' code_def (by k_asm) (by k_asm) (by k_asm) (by k_asm) (by k_asm) (by exact rfl) (by exact rfl) (by first | exact rfl | assumption) (by k_is) (by k_is) (by ktr_room) (by exact BindsTo.of_eq rfl) (by exact locs rfl) ?_ (by exact rfl) (by exact rfl) (by exact rfl) (by decide); k_whole; intro g' L' h' FG' F' N' B' X' T'; (try dsimp only); (try k_lift B'); (try k_fold)))))
  k_steps
  all_goals k_dflt first
    | (refine hret 0 _ _ (by k_asm) (by first | k_asm | (refine cb_drop (by assumption) ?_; intro p hp; (repeat (first | exact hp | refine .tail _ ?_)))))
    | skip
end
end
section
def DrawBack (P D : Addr) (ys : List Value) (most pl : Int) (rest : List (Addr × Obj)) (h₀ : Heap) (L : Addr) (m : Str → Option Value) (s : Shared) (Q : Value → Shared → Prop) : Prop :=
  ∀ (r g st : Int) (t t1 t2 t3 : Tok) (h' : Heap) (tk' : Nat), 0 ≤ r → r < most → Fr h₀ L h' m → News h₀ L h' ((P, W.listOf #[.ref D, .int g t1, .int st t2, .int (pl + 1) t3] 0) :: (D, LCg.lst ys) :: rest) → Q (.int r t) { s with heap := h', toks := tk' }
theorem len_intsA {prog : Program} {w : World} {A : Around} {E : Value → Shared → Prop} {s : Shared} {a : Addr} {l : List Value} {ys : List Int} {Q : Value → Shared → Prop} (hl : s.heap.IsList a l.toArray) (hi : IntsAre l ys) (hfit : ys.length ≤ 1000)
    (h : Q (.int ys.length (s.toks + 1)) { s with toks := s.toks + 1 + 1 }) : wpAny (model prog w) A (call (.builtin "len") [.ref a]) Q E s := by
  have e : l.toArray.size = ys.length := by rw [List.size_toArray]; exact hi.length
  refine len_list hl (by rw [e]; omega) ?_
  rw [e]; exact h
theorem ki_set2 {prog : Program} {w : World} {A : Around} {E : Value → Shared → Prop} {s : Shared} {h₀ : Heap} {L D : Addr} {m : Str → Option Value} {news news' : List (Addr × Obj)} {its : Array Value} {n : Nat} {k : Int} {t : Tok} {v : Value} {q : List Value} {Q : Unit → Shared → Prop} (F : Fr h₀ L s.heap m) (N : News h₀ L s.heap news) (U : Upd D (W.listOf its n) (W.listOf q.toArray n) news news') (e : ki_setL its.toList k.toNat v = some q) (h0 : 0 ≤ k) (hfit : k < 2 ^ 63)
    (h : ∀ h', Fr h₀ L h' m → News h₀ L h' news' → Q () { s with heap := h' }) : wpAny (model prog w) A (setItem (.ref D) (.int k t) v) Q E s := ki_set F N h0 hfit e U h
section
theorem c_draw (w : World) (mean mg mb) (rest) (P D : Addr) (ys : List Value) (zs : List Int) (most g st pl : Int) (t1 t2 t3 u : Tok) : Claim w mean mg mb 3 152 ((P, W.listOf #[.ref D, .int g t1, .int st t2, .int pl t3] 0) :: (D, LCg.lst ys) :: rest) [.ref P, .int most u] (IntsAre ys zs ∧ 0 < most ∧ most < 100 ∧ 0 ≤ pl ∧ pl ≤ 5 ∧ zs.length ≤ 1000 ∧ (∀ q ∈ (D, LCg.lst ys) :: rest, q.1 ≠ P)) (fun _ h₀ L m s Q => DrawBack P D ys most pl rest h₀ L m s Q) := by
  unfold Claim; k_fill; dsimp only [DrawBack]; intros; rename_i hret
  (rename _ ∧ _ => hpre)
  obtain ⟨hI, hm0, hm1, hp0, hp1, hzl, hap⟩ := hpre
  refine wpAny_call ?_
  (k_dflt cell_enter)
  k_with_none
  (k_with "own call builtin:len" => (k_here; k_dflt (refine' len_intsA (by exact News.isList (by k_asm) (by k_mem)) (by assumption) (by assumption) ?_)))
  (k_with "own setItem ref int" => (k_here; k_dflt (refine' ki_set2 (by k_asm) (by k_asm) (by exact Upd.head (by assumption)) (by rfl) (by decide) (by decide) ?_); intro h' F' N'; (try dsimp only [List.nil_append, List.cons_append] at N')))
  (k_with "own binaryOp Mult int int" => (k_here; k_dflt first
  | refine mul_int ?_ (PySem.IntMulOk.of_right (PySem.intBits_le_64 (by decide) (by decide)))
  | refine mul_int ?_ (PySem.IntMulOk.of_left (PySem.intBits_le_64 (by omega) (by omega)))))
  k_steps
  all_goals k_dflt (refine' hret _ _ _ _ _ _ _ _ _ ?a ?b ?c ?d; (case d => k_asm); (case c => k_asm); (case a => exact Int.fmod_nonneg_of_pos _ hm0); (case b => exact Int.fmod_lt_of_pos _ hm0))
end
end
section
section
theorem c_read (w : World) (mean mg mb) (news) (x : Str) (t : Tok) : Claim w mean mg mb 12 133 news [.str x t] (okText x = true ∧ readDay x ≠ none) (fun _ h₀ L m s Q => HeardBack x news h₀ L m s Q) := by
  unfold Claim; k_fill; dsimp only [HeardBack, CbRet]; intros; rename_i hret
  (rename okText _ = true ∧ _ => hpre)
  obtain ⟨hok, hne⟩ := hpre
  have hxl := text_len hok
  refine wpAny_call ?_
  (k_dflt cell_enter)
  k_with_none
  (k_with "own call ref" => (k_here; (with_reducible show wpAny _ _ (call (Value.ref 112) _) _ _ _); k_dflt (refine' Claim.use (c_is_figures _ _ _ _ _ _ _) ?_ ?_; (next => first | exact True.intro | assumption | omega)); ((dsimp only [CbRet]); intro t9 h9 tk9 F9 N9; (try dsimp only); (try k_fold))))
  (k_with "own call ref" => (k_here; (with_reducible show wpAny _ _ (call (Value.ref 100) _) _ _ _); k_dflt (refine' Claim.use (c_month_number _ _ _ _ _ _ _) ?_ ?_; (next => first | exact True.intro | assumption | omega)); ((dsimp only [CbRet]); intro t9 h9 tk9 F9 N9; (try dsimp only); (try k_fold))))
  (k_with "own call ref" => (k_here; (with_reducible show wpAny _ _ (call (Value.ref 95) _) _ _ _); k_dflt (refine' Claim.use (c_is_day _ _ _ _ _ _ _ _ _ _ _) ?_ ?_; (next => first | exact True.intro | assumption | omega)); ((dsimp only [CbRet]); intro t9 h9 tk9 F9 N9; (try dsimp only); (try k_fold))))
  (k_with "own call builtin:len" => (k_here; k_dflt (refine' len_strsA (by exact News.isList (by k_asm) (by k_mem)) (by assumption) (by omega) ?_)))
  (k_with "own subscriptTail Name Constant ref int" => (k_here; k_dflt (first | (refine' part_at (by with_reducible assumption) (by repeat (first | with_reducible exact List.mem_cons_self | with_reducible refine List.mem_cons_of_mem _ ?_)) (by decide) (by decide) (by rfl) ?_) | (refine' part_tp (by with_reducible assumption) (by repeat (first | with_reducible exact List.mem_cons_self | with_reducible refine List.mem_cons_of_mem _ ?_)) (by decide) (by decide) (by rfl) ?_))))
  (k_with "own call type:int" => (k_here; k_dflt (refine' KIN.call_text (part_int (by assumption) (by assumption)) (by omega) ?_)))
  (k_with "own call ref" => (k_here; (with_reducible show wpAny _ _ (call (Value.ref 126) _) _ _ _); (refine wpAny_call ?_); (k_dflt (refine' code_def (by k_asm) (by k_asm) (by k_asm) (by k_asm) (by k_asm) (by exact rfl) (by exact rfl) (by first | exact rfl | assumption) (by k_is) (by k_is) (by ktr_room) (by exact BindsTo.of_eq rfl) (by exact locs rfl) ?_ (by exact rfl) (by exact rfl) (by exact rfl) (by decide); k_whole; intro g' L' h' FG' F' N' B' X' T'; (try dsimp only); (try k_lift B'); (try k_fold)))))
  (k_with "own exec Raise some none" => (k_here; exfalso; k_dflt ((rename (readDay _ ≠ Option.none) => q9); refine q9 ?_; first | with_reducible exact rd_len (by assumption) (by assumption) | with_reducible exact rd_a (by assumption) (by assumption) | with_reducible exact rd_c (by assumption) (by assumption) | with_reducible exact rd_la (by assumption) (by assumption) | with_reducible exact rd_lc (by assumption) (by assumption) | with_reducible exact rd_d (by assumption) (by assumption))))
  (k_with "own call builtin:str.split" => (k_here; k_dflt (refine' split_text (by assumption) (by k_asm) (by k_asm) (by (rw [sizeLine_eq]; omega)) ?_ ?_); all_goals first | (intro D' a' b' c' t1' t2' t3' h' k' he' ha' hb' hc' F' N' l'; (have ka' := part_len ha'); (have kc' := part_len hc'); (have kb' := part_low hb')) | (intro D' vs' ps' h' k' hs' he' hn' hl' F' N' l'; exfalso; (rename (readDay _ ≠ Option.none) => q9); exact q9 (rd_len he' hn'))))
  k_steps
  all_goals k_dflt first
    | (refine' hret.2 _ _ _ (rd_some ?a1 ?a2 ?a3 ?a4 ?a5 ?a6) _ _ _ _ _ _ ?b1 (news_made ?b2) ?b3; (case b2 => with_reducible assumption); (case a1 => with_reducible assumption); (case a2 => with_reducible assumption); (case a3 => with_reducible assumption); (case a4 => with_reducible assumption); (case a5 => with_reducible assumption); (case a6 => with_reducible assumption); (case b1 => with_reducible assumption); (case b3 => (rename _ ∧ AllLt _ _ => q9; exact ktn_ltOf q9.2)))
    | skip
end
end
section
def BoxBack (news : List (Addr × Obj)) (h₀ : Heap) (L : Addr) (m : Str → Option Value) (s : Shared) (Q : Value → Shared → Prop) : Prop :=
  ∀ (P D : Addr) (ys : List Value) (zs : List Int) (g st : Int) (t1 t2 t3 : Tok) (h' : Heap) (tk' : Nat), IntsAre ys zs → zs.length ≤ 1000 → D ≠ P → (∀ p ∈ news, p.1 < P) → Fr h₀ L h' m → News h₀ L h' ((P, W.listOf #[.ref D, .int g t1, .int st t2, .int 0 t3] 0) :: (D, LCg.lst ys) :: news) → Q (.ref P) { s with heap := h', toks := tk' }
theorem box_drop {h₀ : Heap} {L : Addr} {h : Heap} {a b : Addr × Obj} {r : List (Addr × Obj)} (N : News h₀ L h (a :: b :: r)) : News h₀ L h [a, b] := fun p hp => by
  rcases List.mem_cons.mp hp with rfl | hp
  · exact N _ (.head _)
  · rcases List.mem_cons.mp hp with rfl | hp
    · exact N _ (.tail _ (.head _))
    · cases hp
theorem c_box (w : World) (mean mg mb) (S : Addr) (ws : List Value) (ns : List Int) : ∀ (dp un : Nat) (gd : Option (List Code)) (cn : Str) (cs : Scope) (a : Addr) (ccd : Value) (cl : List (Str × Addr)) (outer : List Env) (A₀ : Around) (base h₀ : Heap) (L : Addr) (m : Str → Option Value) (s : Shared) (Q E : Value → Shared → Prop),
    Below A₀ base outer h₀ → Fr h₀ L s.heap m → (Mine.hd.heap_39 w.params).In h₀ → News h₀ L s.heap [] → Top Mine.hd.view_39 (looseW Mine.hd.view_39 [Str.ofString "PostError"]) mean mg mb h₀ → cs.kind = .function →
    base.IsList S ws.toArray → IntsAre ws ns → ¬ (63 : Int) < ns.length → dp + 4 < recursionLimit → un + 20 * 4 < cLine → BoxBack [] h₀ L m s Q →
    wpAny (model PySem.Challenge.rw_or0021_01.row.prog w) (ktrTop dp un gd cn cs L a ccd cl outer) (call (.ref 145) [.ref S]) Q E s := by
  k_fill; dsimp only [BoxBack]; intros; rename_i hret
  refine wpAny_call ?_
  (k_dflt cell_enter)
  k_with_none
  k_steps
  all_goals k_dflt (refine' hret _ _ _ _ _ _ _ _ _ _ _ ?i ?len ?ne ?emp ?f (box_drop ?n); (case n => k_asm); (case f => k_asm); (case i => assumption); (case len => (simp only [List.length_map, List.length_take]; omega)); (case ne => (refine neN ?_; omega)); (case emp => (intro p hp; cases hp)))
end
section
def pieces (c : Nat) : List Nat → List (List Nat)
  | [] => [[]]
  | x :: r => if x = c then [] :: pieces c r else match pieces c r with
    | [] => [[x]]
    | p :: ps => (x :: p) :: ps
theorem pieces_free {c : Nat} : ∀ {p : List Nat}, c ∉ p → pieces c p = [p]
  | [], _ => rfl
  | x :: r, h => by
    have h1 : x ≠ c := fun e => h (e ▸ .head _)
    have h2 : c ∉ r := fun q => h (.tail _ q)
    simp only [pieces, if_neg h1, pieces_free h2]
theorem pieces_cons {c : Nat} {r : List Nat} : ∀ {p : List Nat}, c ∉ p → pieces c (p ++ c :: r) = p :: pieces c r
  | [], _ => by simp [pieces]
  | x :: q, h => by
    have h1 : x ≠ c := fun e => h (e ▸ .head _)
    have h2 : c ∉ q := fun z => h (.tail _ z)
    simp only [List.cons_append, pieces, if_neg h1, pieces_cons h2]
theorem pieces_join {c : Nat} : ∀ (ps : List Str), ps ≠ [] → (∀ p ∈ ps, c ∉ p.cps.toList) → pieces c (Str.join ⟨#[c]⟩ ps).cps.toList = ps.map (·.cps.toList)
  | [], h, _ => absurd rfl h
  | [x], _, h => pieces_free (h x (.head _))
  | x :: y :: r, _, h => by
    have ih := pieces_join (y :: r) (by simp) (fun p hp => h p (.tail _ hp))
    have e : (Str.join ⟨#[c]⟩ (x :: y :: r)).cps.toList = x.cps.toList ++ c :: (Str.join ⟨#[c]⟩ (y :: r)).cps.toList := by
      show (x.cps ++ #[c] ++ (Str.join ⟨#[c]⟩ (y :: r)).cps).toList = _
      simp
    rw [e, pieces_cons (h x (.head _)), ih]
    rfl
def partsOf (x : Str) : List Str := (pieces 45 x.cps.toList).map fun l => ⟨l.toArray⟩
theorem split_pieces (x : Str) : Txt.split x (Str.ofString "-") = partsOf x := by
  have hc : Str.ofString "-" = ⟨#[45]⟩ := by decide
  rw [hc]
  have e := pieces_join (Txt.split x ⟨#[45]⟩) (fun q => by have := split_pos x ⟨#[45]⟩; rw [q] at this; simp at this) (StrLaws.split_free x 45)
  rw [StrLaws.join_split] at e
  unfold partsOf
  rw [e, List.map_map]
  conv => lhs; rw [← List.map_id (Txt.split x ⟨#[45]⟩)]
  exact List.map_congr_left fun p _ => rfl
theorem slice_self (x : Str) : Txt.slice x (some 0) (some (x.length : Int)) = x := by
  have := StrLaws.sliced_plain x (a := 0) (b := x.length) (Nat.zero_le _) (Nat.le_refl _)
  apply Str.ext'
  apply Array.toList_inj.mp
  show _ = x.cps.toList
  unfold Txt.slice
  rw [show ((0 : Int)) = ((0 : Nat) : Int) from rfl]
  simp only [this]
  split
  · rfl
  · simp [Str.length]
    exact List.take_of_length_le (by simp)
theorem theParts_is (x : Str) : theParts x = partsOf x := by
  unfold theParts; rw [slice_self, split_pieces]
def okParts (ps : List Str) : Bool := decide (ps.length ≤ 100) && ps.all partOk
def readParts (ps : List Str) : Option (Int × Int × Int) := match ps with
  | [a, b, c] => if (isFigures a && isFigures c && decide (a.length ≤ 2) && decide (c.length = 4) && isDay ((PySem.intText? c).getD 0) (monthNo b) ((PySem.intText? a).getD 0)) = true then some ((PySem.intText? c).getD 0, monthNo b, (PySem.intText? a).getD 0) else none
  | _ => none
theorem okText_is (x : Str) : okText x = (decide (x.length ≤ 100) && okParts (partsOf x)) := by
  unfold okText okParts; rw [theParts_is, Bool.and_assoc]
theorem readDay_is (x : Str) : readDay x = readParts (partsOf x) := by
  unfold readDay readParts; rw [theParts_is]
  try rfl
def fastOk (x : Str) : Bool := decide (x.length ≤ 100) && okParts (partsOf x)
def dash : Str := Str.ofString "-"
def spc : Str := Str.ofString " "
def lawText (d m y : Str) : Str := (((d.append dash).append m).append dash).append y
def lawTextOk (d m y : Str) : Bool := fastOk (lawText d m y) && decide (readParts (partsOf (lawText d m y)) = told d m y)
def bentOk (x : Str) : Bool := fastOk x && decide (readParts (partsOf x) = none)
theorem text_all : (lawDays.all fun d => lawMonths.all fun m => lawYears.all fun y => lawTextOk d m y) = true := by decide +kernel
def shownOk (d m y : Str) : Bool := match told d m y with
  | none => true
  | some (a, b, c) => isDay a b c && fastOk (dayText a b c) && decide (readParts (partsOf (dayText a b c)) = some (a, b, c)) && decide ((dayText a b c).length = 9 + (Str.ofString (toString c)).length) && !(Txt.slice (dayText a b c) none (some 1) == Str.ofString "0") && (Txt.slice (dayText a b c) (some (-4)) none == y)
theorem shown_all : (lawDays.all fun d => lawMonths.all fun m => lawYears.all fun y => shownOk d m y) = true := by decide +kernel
section
variable {d m y : Str}
theorem all_three {f : Str → Str → Str → Bool} (h : (lawDays.all fun d => lawMonths.all fun m => lawYears.all fun y => f d m y) = true) (hd : d ∈ lawDays) (hm : m ∈ lawMonths) (hy : y ∈ lawYears) : f d m y = true :=
  List.all_eq_true.mp (List.all_eq_true.mp (List.all_eq_true.mp h d hd) m hm) y hy
theorem text_ok (hd : d ∈ lawDays) (hm : m ∈ lawMonths) (hy : y ∈ lawYears) : okText (lawText d m y) = true := by
  have := all_three text_all hd hm hy
  simp only [lawTextOk, Bool.and_eq_true, decide_eq_true_eq] at this; rw [okText_is]; exact this.1
theorem text_told (hd : d ∈ lawDays) (hm : m ∈ lawMonths) (hy : y ∈ lawYears) : readDay (lawText d m y) = told d m y := by
  have := all_three text_all hd hm hy
  simp only [lawTextOk, Bool.and_eq_true, decide_eq_true_eq] at this; rw [readDay_is]; exact this.2
theorem bent_ok {x : Str} (h : bentOk x = true) : okText x = true := by simp only [bentOk, Bool.and_eq_true, decide_eq_true_eq] at h; rw [okText_is]; exact h.1
theorem bent_none {x : Str} (h : bentOk x = true) : readDay x = none := by simp only [bentOk, Bool.and_eq_true, decide_eq_true_eq] at h; rw [readDay_is]; exact h.2
def glueD : List (List Nat) → List Nat
  | [] => []
  | [p] => p
  | p :: q :: r => p ++ 45 :: glueD (q :: r)
theorem pieces_glue : ∀ (ps : List (List Nat)), ps ≠ [] → (∀ p ∈ ps, 45 ∉ p) → pieces 45 (glueD ps) = ps
  | [], h, _ => absurd rfl h
  | [p], _, h => pieces_free (h p (.head _))
  | p :: q :: r, _, h => by
    show pieces 45 (p ++ 45 :: glueD (q :: r)) = _
    rw [pieces_cons (h p (.head _)), pieces_glue (q :: r) (by simp) (fun x hx => h x (.tail _ hx))]
theorem parts_glue {x : Str} (ps : List Str) (h0 : ps ≠ []) (hf : ∀ p ∈ ps, 45 ∉ p.cps.toList) (e : x.cps.toList = glueD (ps.map (·.cps.toList))) : partsOf x = ps := by
  unfold partsOf
  rw [e, pieces_glue _ (by simpa using h0) (by intro p hp; obtain ⟨q, hq, rfl⟩ := List.mem_map.mp hp; exact hf q hq), List.map_map]
  conv => rhs; rw [← List.map_id ps]
  exact List.map_congr_left fun p _ => rfl
theorem app_cps (a b : Str) : (a.append b).cps.toList = a.cps.toList ++ b.cps.toList := by
  show (a.cps ++ b.cps).toList = _
  simp
theorem app_len (a b : Str) : (a.append b).length = a.length + b.length := Str.length_append a b
theorem dash_cps : dash.cps.toList = [45] := by decide
theorem spc_cps : spc.cps.toList = [32] := by decide
theorem dash_one : dash.length = 1 := by decide
theorem spc_one : spc.length = 1 := by decide
def noText : Str := ⟨#[]⟩
theorem no_cps : noText.cps.toList = [] := rfl
theorem no_ok : partOk noText = true := by decide +kernel
theorem fig_no {x : Str} (h : 32 ∈ x.cps.toList) : isFigures x = false := by
  have m : (⟨#[32]⟩ : Str) ∈ (signs x).filter badSign := List.mem_filter.mpr ⟨List.mem_map.mpr ⟨32, h, rfl⟩, by decide⟩
  have e : ((signs x).filter badSign).isEmpty = false := by
    cases hq : (signs x).filter badSign with
    | nil => rw [hq] at m; cases m
    | cons _ _ => rfl
  unfold isFigures
  rw [e, Bool.and_false]
theorem part_of {x : Str} (hl : x.length ≤ 100) (hc : ∀ c ∈ x.cps.toList, c < 1000) (hf : isFigures x = false) : partOk x = true := by
  unfold partOk
  rw [hf, decide_eq_true hl, List.all_eq_true.mpr (fun c h => decide_eq_true (hc c h))]
  rfl
theorem bent_of {x : Str} (ps : List Str) (hl : x.length ≤ 100) (e : partsOf x = ps) (ok : ps.all partOk = true) (hn : ps.length ≤ 100) (rn : readParts ps = none) : bentOk x = true := by
  unfold bentOk fastOk okParts
  rw [e, ok, rn, decide_eq_true hl, decide_eq_true hn]
  rfl
theorem days_word : ∀ d ∈ lawDays, d.length ≤ 5 ∧ 45 ∉ d.cps.toList ∧ partOk d = true := by decide +kernel
theorem months_word : ∀ m ∈ lawMonths, m.length ≤ 5 ∧ 45 ∉ m.cps.toList ∧ partOk m = true := by decide +kernel
theorem years_word : ∀ y ∈ lawYears, y.length ≤ 5 ∧ 45 ∉ y.cps.toList ∧ partOk y = true := by decide +kernel
theorem both_word : ∀ m ∈ lawMonths, ∀ y ∈ lawYears, partOk (m.append y) = true := by decide +kernel
section
variable {d m y : Str}
theorem bents (hd : d ∈ lawDays) (hm : m ∈ lawMonths) (hy : y ∈ lawYears) : bentOk (spc.append (lawText d m y)) = true ∧ bentOk ((lawText d m y).append spc) = true ∧ bentOk ((lawText d m y).append dash) = true ∧ bentOk ((((d.append spc).append m).append spc).append y) = true ∧ bentOk (((d.append dash).append m).append y) = true ∧ bentOk (dash.append (lawText d m y)) = true := by
  obtain ⟨ld, fd, pd⟩ := days_word d hd
  obtain ⟨lm, fm, pm⟩ := months_word m hm
  obtain ⟨ly, fy, py⟩ := years_word y hy
  have pmy := both_word m hm y hy
  have cd := (part_low pd).2
  have cm := (part_low pm).2
  have cy := (part_low py).2
  have g1 : isFigures (spc.append d) = false := fig_no (by rw [app_cps, spc_cps]; exact .head _)
  have g2 : isFigures (y.append spc) = false := fig_no (by rw [app_cps, spc_cps]; simp)
  have p1 : partOk (spc.append d) = true := part_of (by rw [app_len, spc_one]; omega) (by
    intro c hc; rw [app_cps, spc_cps] at hc; rcases List.mem_append.mp hc with h | h
    · rw [List.mem_singleton.mp h]; omega
    · exact cd c h) g1
  have p2 : partOk (y.append spc) = true := part_of (by rw [app_len, spc_one]; omega) (by
    intro c hc; rw [app_cps, spc_cps] at hc; rcases List.mem_append.mp hc with h | h
    · exact cy c h
    · rw [List.mem_singleton.mp h]; omega) g2
  have p4 : partOk ((((d.append spc).append m).append spc).append y) = true := part_of (by simp only [app_len, spc_one]; omega) (by
    intro c hc
    simp only [app_cps, spc_cps, List.mem_append, List.mem_singleton] at hc
    rcases hc with (((h | h) | h) | h) | h
    · exact cd c h
    · omega
    · exact cm c h
    · omega
    · exact cy c h) (fig_no (by simp only [app_cps, spc_cps, List.mem_append, List.mem_singleton]; exact .inl (.inr trivial)))
  have f0 : 45 ∉ noText.cps.toList := by rw [no_cps]; exact List.not_mem_nil
  have f1 : 45 ∉ (spc.append d).cps.toList := by
    rw [app_cps, spc_cps]; intro h; rcases List.mem_append.mp h with h | h
    · exact absurd (List.mem_singleton.mp h) (by decide)
    · exact fd h
  have f2 : 45 ∉ (y.append spc).cps.toList := by
    rw [app_cps, spc_cps]; intro h; rcases List.mem_append.mp h with h | h
    · exact fy h
    · exact absurd (List.mem_singleton.mp h) (by decide)
  have f4 : 45 ∉ ((((d.append spc).append m).append spc).append y).cps.toList := by
    simp only [app_cps, spc_cps, List.mem_append, List.mem_singleton]
    rintro ((((h | h) | h) | h) | h)
    · exact fd h
    · exact absurd h (by decide)
    · exact fm h
    · exact absurd h (by decide)
    · exact fy h
  have f5 : 45 ∉ (m.append y).cps.toList := by
    rw [app_cps]; intro h; rcases List.mem_append.mp h with h | h
    · exact fm h
    · exact fy h
  refine ⟨bent_of [spc.append d, m, y] ?_ (parts_glue _ (by simp) ?_ ?_) ?_ (Nat.le_of_ble_eq_true rfl) ?_, bent_of [d, m, y.append spc] ?_ (parts_glue _ (by simp) ?_ ?_) ?_ (Nat.le_of_ble_eq_true rfl) ?_, bent_of [d, m, y, noText] ?_ (parts_glue _ (by simp) ?_ ?_) ?_ (Nat.le_of_ble_eq_true rfl) ?_,
    bent_of [(((d.append spc).append m).append spc).append y] ?_ (parts_glue _ (by simp) ?_ ?_) ?_ (Nat.le_of_ble_eq_true rfl) ?_, bent_of [d, m.append y] ?_ (parts_glue _ (by simp) ?_ ?_) ?_ (Nat.le_of_ble_eq_true rfl) ?_, bent_of [noText, d, m, y] ?_ (parts_glue _ (by simp) ?_ ?_) ?_ (Nat.le_of_ble_eq_true rfl) ?_⟩
  all_goals first
    | rfl
    | (simp only [lawText, app_len, spc_one, dash_one]; omega)
    | (simp only [List.all_cons, List.all_nil, pd, pm, py, pmy, p1, p2, p4, no_ok, Bool.and_true]; done)
    | (simp only [readParts, g1, g2, Bool.false_and, Bool.and_false]; simp; done)
    | (repeat (first | exact List.forall_mem_nil _ | refine List.forall_mem_cons.mpr ⟨by assumption, ?_⟩)); done
    | (simp [lawText, app_cps, spc_cps, dash_cps, no_cps, glueD]; done)
end
theorem shown_ok {a b c : Int} (hd : d ∈ lawDays) (hm : m ∈ lawMonths) (hy : y ∈ lawYears) (h : told d m y = some (a, b, c)) : isDay a b c = true ∧ okText (dayText a b c) = true ∧ readDay (dayText a b c) = some (a, b, c) ∧ (dayText a b c).length = 9 + (Str.ofString (toString c)).length ∧ (Txt.slice (dayText a b c) none (some 1) == Str.ofString "0") = false ∧ (Txt.slice (dayText a b c) (some (-4)) none == y) = true := by
  have := all_three shown_all hd hm hy
  unfold shownOk at this; rw [h] at this
  simp only [Bool.and_eq_true, decide_eq_true_eq, Bool.not_eq_true'] at this
  obtain ⟨⟨⟨⟨⟨h1, h2⟩, h3⟩, h4⟩, h5⟩, h6⟩ := this
  exact ⟨h1, by rw [okText_is]; exact h2, by rw [readDay_is]; exact h3, h4, h5, h6⟩
theorem days_len : ∀ x ∈ lawDays, x.length ≤ 5 := by decide +kernel
theorem months_len5 : ∀ x ∈ lawMonths, x.length ≤ 5 := by decide +kernel
theorem years_len : ∀ x ∈ lawYears, x.length ≤ 5 := by decide +kernel
end
theorem spc_len : (Str.ofString " ").length = 1 := by decide
theorem heard_none {x : Str} {news : List (Addr × Obj)} {h₀ : Heap} {L : Addr} {m : Str → Option Value} {s : Shared} {Q : Value → Shared → Prop} (h : readDay x = none) (k : CbRet h₀ L m news s Q (fun _ => .none)) : HeardBack x news h₀ L m s Q :=
  ⟨fun _ => k, fun _ _ _ q => absurd (h.symm.trans q) (fun e => by cases e)⟩
theorem heard_some {x : Str} {y mo d : Int} {news : List (Addr × Obj)} {h₀ : Heap} {L : Addr} {m : Str → Option Value} {s : Shared} {Q : Value → Shared → Prop} (h : readDay x = some (y, mo, d))
    (k : ∀ (t1 t2 t3 : Tok) (D : Addr) (h' : Heap) (tk' : Nat), Fr h₀ L h' m → News h₀ L h' ((D, tupObj [.int y t1, .int mo t2, .int d t3]) :: news) → (∀ p ∈ news, p.1 < D) → Q (.ref D) { s with heap := h', toks := tk' }) : HeardBack x news h₀ L m s Q :=
  ⟨fun q => absurd (h.symm.trans q) (fun e => by cases e), fun y' mo' d' q => by
    have e := h.symm.trans q
    cases e
    exact k⟩
theorem ClaimL.use {w : World} {mean : ExcName → Option Value} {mg mb : Str → Option Value} {k : Nat} {f : Addr} {news : List (Addr × Obj)} {vs : List Value} {pre : Prop} {Ret : Heap → Heap → Addr → (Str → Option Value) → Shared → (Value → Shared → Prop) → Prop}
    (C : ClaimL w mean mg mb k f news vs pre Ret) {dp un : Nat} {gd : Option (List Code)} {cn : Str} {cs : Scope} {a : Addr} {ccd : Value} {A₀ : Around} {base h₀ : Heap} {L : Addr} {m : Str → Option Value} {s : Shared} {Q E : Value → Shared → Prop}
    (N : News h₀ L s.heap news := by k_asm) (F : Fr h₀ L s.heap m := by k_asm) (B : Below A₀ base [] h₀ := by k_asm) (XB : (Mine.hd.heap_39 w.params).In base := by k_asm) (TB : Top Mine.hd.view_39 (looseW Mine.hd.view_39 [Str.ofString "PostError"]) mean mg mb base := by k_asm) (X : (Mine.hd.heap_39 w.params).In h₀ := by k_asm) (T : Top Mine.hd.view_39 (looseW Mine.hd.view_39 [Str.ofString "PostError"]) mean mg mb h₀ := by k_asm)
    (hk : cs.kind = .function := by first | exact rfl | assumption) (hp : pre) (hd : dp + k < recursionLimit := by ktr_room) (hu : un + 20 * k < cLine := by ktr_units) (hr : Ret base h₀ L m s Q) :
    wpAny (model PySem.Challenge.rw_or0021_01.row.prog w) (ktrTop dp un gd cn cs L a ccd [] []) (call (.ref f) vs) Q E s := C _ _ _ _ _ _ _ _ _ _ _ _ _ _ _ B F XB TB X N T hk hp hd hu hr
end
section
theorem tab_item {prog : Program} {w : World} {A : Around} {E : Value → Shared → Prop} {s : Shared} {value slice : Expr} {i : Int} {u : Tok} {Q : Value → Shared → Prop} {l : Addr} {vs : List Value} {ws : List PySem.Str} (ht : IsTup s.heap l vs.toArray) (hw : StrsAre vs ws) (h0 : 0 ≤ i) (h1 : i < (ws.length : Int)) (hz : ws.length ≤ 100)
    (h : ∀ x t', x ∈ ws → Q (.str x t') s)
    (hs : subscripted slice false (.ref l) (.int i u) = operate [.ref l, .int i u] (getItem (.ref l) (.int i u)) := by with_unfolding_all rfl) :
    wpAny (model prog w) A (subscriptTail value slice (.ref l) (.int i u)) Q E s :=
  KTb.item_tup ht hw h0 h1 (by omega) (fun t' hlt => h _ t' (by rw [List.getD_eq_getElem?_getD, List.getElem?_eq_getElem hlt]; exact List.getElem_mem hlt)) hs
/-- two texts one behind the other; a word that no reducible look unfolds -/
def glue (a b : Str) : Str := a ++ b
theorem glue_len (a b : Str) : (glue a b).length = a.length + b.length := Str.length_append a b
theorem glue_le {a b : Str} {n k : Nat} (ha : a.length ≤ n) (hb : b.length ≤ k) : (glue a b).length ≤ n + k := by rw [glue_len]; omega
theorem dash_le : (Str.ofString "-").length ≤ 1 := Nat.le_of_eq dash_len
theorem spc_le : (Str.ofString " ").length ≤ 1 := Nat.le_of_eq spc_len
theorem two_le {a b : Str} {n k : Nat} (ha : a.length ≤ n) (hb : b.length ≤ k) (h : Nat.ble (n + k) 1000 = true) : a.length + b.length ≤ sizeLine := by
  have := Nat.le_of_ble_eq_true h
  rw [sizeLine_eq]; omega
theorem add_glue {prog : Program} {w : World} {A : Around} {E : Value → Shared → Prop} {s : Shared} {a b : Str} {ta tb : Tok} {Q : Value → Shared → Prop}
    (h : ∀ t k, Q (.str (glue a b) t) { s with toks := k }) (hs : a.length + b.length ≤ sizeLine) : wpAny (model prog w) A (binaryOp .Add (.str a ta) (.str b tb)) Q E s :=
  add_str h hs
section
variable {d m y : Str}
theorem lt_ok (hd : d ∈ lawDays) (hm : m ∈ lawMonths) (hy : y ∈ lawYears) : okText (glue (glue (glue (glue d (Str.ofString "-")) m) (Str.ofString "-")) y) = true := text_ok hd hm hy
theorem lt_none (hd : d ∈ lawDays) (hm : m ∈ lawMonths) (hy : y ∈ lawYears) (h : told d m y = none) : readDay (glue (glue (glue (glue d (Str.ofString "-")) m) (Str.ofString "-")) y) = none := (text_told hd hm hy).trans h
theorem lt_some {a b c : Int} (hd : d ∈ lawDays) (hm : m ∈ lawMonths) (hy : y ∈ lawYears) (h : told d m y = some (a, b, c)) : readDay (glue (glue (glue (glue d (Str.ofString "-")) m) (Str.ofString "-")) y) = some (a, b, c) := (text_told hd hm hy).trans h
theorem bt1 (hd : d ∈ lawDays) (hm : m ∈ lawMonths) (hy : y ∈ lawYears) : bentOk (glue (Str.ofString " ") (glue (glue (glue (glue d (Str.ofString "-")) m) (Str.ofString "-")) y)) = true := (bents hd hm hy).1
theorem bt2 (hd : d ∈ lawDays) (hm : m ∈ lawMonths) (hy : y ∈ lawYears) : bentOk (glue (glue (glue (glue (glue d (Str.ofString "-")) m) (Str.ofString "-")) y) (Str.ofString " ")) = true := (bents hd hm hy).2.1
theorem bt3 (hd : d ∈ lawDays) (hm : m ∈ lawMonths) (hy : y ∈ lawYears) : bentOk (glue (glue (glue (glue (glue d (Str.ofString "-")) m) (Str.ofString "-")) y) (Str.ofString "-")) = true := (bents hd hm hy).2.2.1
theorem bt4 (hd : d ∈ lawDays) (hm : m ∈ lawMonths) (hy : y ∈ lawYears) : bentOk (glue (glue (glue (glue d (Str.ofString " ")) m) (Str.ofString " ")) y) = true := (bents hd hm hy).2.2.2.1
theorem bt5 (hd : d ∈ lawDays) (hm : m ∈ lawMonths) (hy : y ∈ lawYears) : bentOk (glue (glue (glue d (Str.ofString "-")) m) y) = true := (bents hd hm hy).2.2.2.2.1
theorem bt6 (hd : d ∈ lawDays) (hm : m ∈ lawMonths) (hy : y ∈ lawYears) : bentOk (glue (Str.ofString "-") (glue (glue (glue (glue d (Str.ofString "-")) m) (Str.ofString "-")) y)) = true := (bents hd hm hy).2.2.2.2.2
theorem all_ok (hd : d ∈ lawDays) (hm : m ∈ lawMonths) (hy : y ∈ lawYears) :
    okText (glue (glue (glue (glue d (Str.ofString "-")) m) (Str.ofString "-")) y) = true ∧
    okText (glue (Str.ofString " ") (glue (glue (glue (glue d (Str.ofString "-")) m) (Str.ofString "-")) y)) = true ∧
    okText (glue (glue (glue (glue (glue d (Str.ofString "-")) m) (Str.ofString "-")) y) (Str.ofString " ")) = true ∧
    okText (glue (glue (glue (glue (glue d (Str.ofString "-")) m) (Str.ofString "-")) y) (Str.ofString "-")) = true ∧
    okText (glue (glue (glue (glue d (Str.ofString " ")) m) (Str.ofString " ")) y) = true ∧
    okText (glue (glue (glue d (Str.ofString "-")) m) y) = true ∧
    okText (glue (Str.ofString "-") (glue (glue (glue (glue d (Str.ofString "-")) m) (Str.ofString "-")) y)) = true :=
  ⟨lt_ok hd hm hy, bent_ok (bt1 hd hm hy), bent_ok (bt2 hd hm hy), bent_ok (bt3 hd hm hy), bent_ok (bt4 hd hm hy), bent_ok (bt5 hd hm hy), bent_ok (bt6 hd hm hy)⟩
theorem all_none (hd : d ∈ lawDays) (hm : m ∈ lawMonths) (hy : y ∈ lawYears) :
    readDay (glue (Str.ofString " ") (glue (glue (glue (glue d (Str.ofString "-")) m) (Str.ofString "-")) y)) = none ∧
    readDay (glue (glue (glue (glue (glue d (Str.ofString "-")) m) (Str.ofString "-")) y) (Str.ofString " ")) = none ∧
    readDay (glue (glue (glue (glue (glue d (Str.ofString "-")) m) (Str.ofString "-")) y) (Str.ofString "-")) = none ∧
    readDay (glue (glue (glue (glue d (Str.ofString " ")) m) (Str.ofString " ")) y) = none ∧
    readDay (glue (glue (glue d (Str.ofString "-")) m) y) = none ∧
    readDay (glue (Str.ofString "-") (glue (glue (glue (glue d (Str.ofString "-")) m) (Str.ofString "-")) y)) = none :=
  ⟨bent_none (bt1 hd hm hy), bent_none (bt2 hd hm hy), bent_none (bt3 hd hm hy), bent_none (bt4 hd hm hy), bent_none (bt5 hd hm hy), bent_none (bt6 hd hm hy)⟩
theorem ok_len {x : Str} (h : okText x = true) : x.length ≤ sizeLine := by
  unfold okText at h
  simp only [Bool.and_eq_true, decide_eq_true_eq] at h
  have : x.length ≤ 100 := by omega
  exact Nat.le_trans this (by rw [sizeLine_eq]; omega)
theorem len_day {prog : Program} {w : World} {A : Around} {E : Value → Shared → Prop} {s : Shared} {x z : Str} {t : Tok} {Q : Value → Shared → Prop} (e : x.length = 9 + z.length) (hx : x.length ≤ sizeLine)
    (h : ∀ u k, Q (.int (9 + (z.length : Int)) u) { s with toks := k }) : wpAny (model prog w) A (call (.builtin "len") [.str x t]) Q E s := by
  rw [sizeLine_eq] at hx
  have q : (x.length : Int) = 9 + (z.length : Int) := by omega
  refine P.len_str (by omega) ?_
  rw [q]
  exact h _ _
theorem read_ne {x : Str} {v : Int × Int × Int} (h : readDay x = some v) : readDay x ≠ none := by rw [h]; exact fun q => by cases q
end
section
theorem law_dev : PySem.Challenge.rw_or0021_01.Holds := Mine.hd (by
  k_with_none
  (k_with "own call ref" => (k_here; (with_reducible show wpAny _ _ (call (Value.ref 145) [Value.ref _]) _ _ _); k_dflt (refine' c_box _ _ _ _ _ _ _ _ _ _ _ _ _ _ _ _ _ _ _ _ _ _ _ _ (by k_asm) (by k_asm) (by k_asm) (by k_asm) (by k_asm) (by first | exact rfl | assumption) (by assumption) (by assumption) (by omega) (by ktr_room) (by ktr_units) ?_); (dsimp only [BoxBack]; intro P9 D9 ys9 zs9 g9 s9 t9 u9 v9 h9 tk9 hI9 hz9 hne9 he9 F9 N9; (try dsimp only); (try k_fold))))
  (k_with "own call ref" => (k_here; (with_reducible show wpAny _ _ (call (Value.ref 152) [Value.ref _, Value.int _ _]) _ _ _); k_dflt (refine' Claim.use2 (c_draw _ _ _ _ _ _ _ _ _ _ _ _ _ _ _ _ _) (hp := (by exact ⟨by assumption, by decide, by decide, by omega, by omega, by assumption, List.forall_mem_cons.mpr ⟨by assumption, List.forall_mem_nil _⟩⟩)) (hr := ?_)); (dsimp only [DrawBack]; intro r9 g9 s9 t9 u9 v9 w9 h9 tk9 hr9 hm9 F9 N9; (try dsimp only); (try k_fold))))
  (k_with "own subscriptTail" => (k_here; (with_reducible show wpAny _ _ (subscriptTail _ _ (Value.ref 153) (Value.int _ _)) _ _ _); k_dflt (refine' tab_item (ws := lawDays) (tupK (by exact Frag.In.keeps (by k_asm) (Fr.keep (by k_asm))) (by k_is)) (by (repeat (first | exact StrsAre.nil | refine StrsAre.cons _ _ ?_))) (by omega) (by (show _ < (10 : Int)); omega) (by decide) ?_ (by with_unfolding_all rfl)); intro x' t' hd'; (first | have kd' := days_len _ hd' | have kd' := months_len5 _ hd' | have kd' := years_len _ hd')))
  (k_with "own subscriptTail" => (k_here; (with_reducible show wpAny _ _ (subscriptTail _ _ (Value.ref 154) (Value.int _ _)) _ _ _); k_dflt (refine' tab_item (ws := lawMonths) (tupK (by exact Frag.In.keeps (by k_asm) (Fr.keep (by k_asm))) (by k_is)) (by (repeat (first | exact StrsAre.nil | refine StrsAre.cons _ _ ?_))) (by omega) (by (show _ < (9 : Int)); omega) (by decide) ?_ (by with_unfolding_all rfl)); intro x' t' hd'; (first | have kd' := days_len _ hd' | have kd' := months_len5 _ hd' | have kd' := years_len _ hd')))
  (k_with "own subscriptTail" => (k_here; (with_reducible show wpAny _ _ (subscriptTail _ _ (Value.ref 155) (Value.int _ _)) _ _ _); k_dflt (refine' tab_item (ws := lawYears) (tupK (by exact Frag.In.keeps (by k_asm) (Fr.keep (by k_asm))) (by k_is)) (by (repeat (first | exact StrsAre.nil | refine StrsAre.cons _ _ ?_))) (by omega) (by (show _ < (9 : Int)); omega) (by decide) ?_ (by with_unfolding_all rfl)); intro x' t' hd'; (first | have kd' := days_len _ hd' | have kd' := months_len5 _ hd' | have kd' := years_len _ hd')))
  (k_with "own call ref" => (k_here; (with_reducible show wpAny _ _ (call (Value.ref 162) [Value.str _ _, Value.str _ _, Value.str _ _]) _ _ _); k_dflt (refine' Claim.use2 (c_told _ _ _ _ _ _ _ _ _ _ _) (hp := True.intro) (hr := ?_)); (dsimp only [ToldBack, CbRet]); refine ⟨fun qt9 t9 h9 tk9 F9 N9 => ?_, fun a9 b9 c9 qt9 t9 u9 v9 D9 h9 tk9 F9 N9 l9 => ?_⟩; all_goals ((try dsimp only); (try k_fold)); (try (rename (told _ _ _ = some _) => qt9; obtain ⟨sh1, sh2, sh3, sh4, sh5, sh6⟩ := shown_ok (by assumption) (by assumption) (by assumption) qt9; have sh8 := ok_len sh2; obtain ⟨sb1, sb2, sb3, sb4, sb5, sb6⟩ := isDay_bounds sh1; have sh7 := lt_some (by assumption) (by assumption) (by assumption) qt9))))
  (k_with "own binaryOp Add str str" => (k_here; k_dflt ((with_reducible refine' add_glue ?_ (by k_dflt (apply two_le; repeat (first | with_reducible assumption | with_reducible exact dash_le | with_reducible exact spc_le | with_reducible apply glue_le | exact rfl)))); intro t' k')))
  (k_with "own call ref" => (k_here; (with_reducible show wpAny _ _ (call (Value.ref 169) [Value.ref 133, Value.str _ _]) _ _ _); k_dflt (refine' ClaimL.use (c_heard _ _ _ _ _ _ _) (hp := (by (have q7 := all_ok (by assumption) (by assumption) (by assumption)); obtain ⟨_, _, _, _, _, _, _⟩ := q7; with_reducible assumption)) (hr := ?_)); first
  | (refine heard_none (by first | ((with_reducible refine lt_none ?_ ?_ ?_ ?_) <;> with_reducible assumption) | ((have q7 := all_none (by assumption) (by assumption) (by assumption)); obtain ⟨_, _, _, _, _, _⟩ := q7; with_reducible assumption)) ?_; intro t9 h9 tk9 F9 N9)
  | (refine heard_some (by with_reducible assumption) ?_; intro t9 u9 v9 D9 h9 tk9 F9 N9 l9)))
  (k_with "own call ref" => (k_here; (with_reducible show wpAny _ _ (call (Value.ref 133) [Value.str _ _]) _ _ _); k_dflt (refine' Claim.use2 (c_read _ _ _ _ _ _ _) (hp := (by exact ⟨by with_reducible assumption, read_ne (by with_reducible assumption)⟩)) (hr := ?_)); (refine heard_some (by with_reducible assumption) ?_; intro t9 u9 v9 D9 h9 tk9 F9 N9 l9)))
  (k_with "own call ref" => (k_here; (with_reducible show wpAny _ _ (call (Value.ref 140) [Value.ref _]) _ _ _); k_dflt (refine' Claim.use2 (c_write _ _ _ _ _ _ _ _ _ _ _ _) (hp := (by refine ⟨by k_mem, ?_⟩; first | with_reducible assumption | exact rfl | decide)) (hr := ?_)); (intro t9 h9 tk9 F9 N9)))
  (k_with "own call ref" => (k_here; (with_reducible show wpAny _ _ (call (Value.ref 169) [Value.ref 140, Value.ref _]) _ _ _); k_dflt (refine' ClaimL.use (c_heardw _ _ _ _ _ _ _ _ _ _ _ _) (hp := (by refine ⟨by k_mem, ?_⟩; first | exact rfl | decide)) (hr := ?_)); (intro t9 h9 tk9 F9 N9)))
  (k_with "own ite" => (k_here; first | with_reducible refine ite_ff ?_ | with_reducible refine ite_tt ?_))
  (k_with "own exec For Name Tuple cons nil" => (k_here; (with_reducible refine' For_turns (by (rename Fr _ _ _ _ => lF; with_unfolding_all exact lF)) ?_ (by k_dflt (intro _; rfl)) (by k_dflt passes_own))))
  (k_with "own subscriptTail Name Slice str ref" => (k_here; (with_reducible show wpAny _ _ (subscriptTail _ (Expr.Slice none (some _) none _) (Value.str _ _) (Value.ref _)) _ _ _); (with_reducible rename Fr _ _ _ _ => F'); (with_reducible rename News _ _ _ _ => N'); k_dflt (refine slice_strN_ns (hsz := (by with_reducible assumption)) (s := ⟨_, _, _, _, _⟩) F' N' ?_); intro _ _ _ _ _))
  (k_with "own subscriptTail Name Slice str ref" => (k_here; (with_reducible show wpAny _ _ (subscriptTail _ (Expr.Slice (some _) none none _) (Value.str _ _) (Value.ref _)) _ _ _); (with_reducible rename Fr _ _ _ _ => F'); (with_reducible rename News _ _ _ _ => N'); k_dflt (refine slice_strN_sn (hsz := (by with_reducible assumption)) (s := ⟨_, _, _, _, _⟩) F' N' ?_); intro _ _ _ _ _))
  (k_with "own call builtin:len" => (k_here; (with_reducible show wpAny _ _ (call (Value.builtin "len") [Value.str (dayText _ _ _) _]) _ _ _); k_dflt (refine len_day (by with_reducible assumption) (by with_reducible assumption) ?_); intro t9 k9))
  k_go)
end
end
end Mine
theorem PySem.Challenge.cw_or0021_01_holds : PySem.Challenge.rw_or0021_01.Holds := by
  exact Mine.law_dev
