import PyProof.Rows.All
import Wide.All
import OpenK.AllK
import Wide.FinOn
import PySem.Challenge.RW_nt0536_01
open PySem PySem.W PyProof.Rows PySem.Calls PySem.Spec
set_option Elab.async false
set_option maxRecDepth 100000
set_option maxHeartbeats 8000000
namespace Mine
open_top hd for PySem.Challenge.rw_nt0536_01
end Mine
/- Base -/
namespace Mine
open PyProof.Rows.LCg

def SrcTp (ax : Addr) (its : Array Value) (news : List (Addr × Obj)) : Prop := ∃ o, (ax, o) ∈ news ∧ o.cls = .type "tuple" ∧ ∃ n, o.data = .seq its n

def CompSrcTp (prog : Program) (w : World) (A : Around) (h₀ : Heap) (L : Addr) (m : Str → Option Value) (env : Env) (elt : Expr) (x : Str) (scope : Scope) (cl : List (Str × Addr)) (Fin : Shared → List Value → List (Addr × Obj) → Prop) (xv : Value) (s₁ : Shared) : Prop :=
  ∃ ax its news, xv = .ref ax ∧ A.handled = none ∧ Fr h₀ L s₁.heap m ∧ News h₀ L s₁.heap news ∧ SrcTp ax its news ∧ its.size ≤ sizeLine ∧
    ∀ s₂ : Shared, (∃ h, s₂ = { s₁ with heap := h }) → CompRest prog w A h₀ L m env elt x scope cl s₂ (SrcTp ax its) (fun i v => its[i]? = some v) (Fin s₂) its.size 0 [] news

section
variable {prog : Program} {w : World} {A : Around} {E : Value → Shared → Prop} {s : Shared} {h₀ : Heap} {L : Addr} {m : Str → Option Value} {env : Env}

theorem CompSrcTp.intro {elt : Expr} {x : Str} {scope : Scope} {cl : List (Str × Addr)} {Fin : Shared → List Value → List (Addr × Obj) → Prop} {ax : Addr} {its : Array Value} {k : Nat} {news : List (Addr × Obj)} {s₁ : Shared}
    (hh : A.handled = none) (F : Fr h₀ L s₁.heap m) (N : News h₀ L s₁.heap news) (hm : (ax, ({ cls := .type "tuple", data := .seq its k } : Obj)) ∈ news) (hsz : its.size ≤ sizeLine)
    (h : ∀ g, CompRest prog w A h₀ L m env elt x scope cl { s₁ with heap := g } (SrcTp ax its) (fun i v => its[i]? = some v) (Fin { s₁ with heap := g }) its.size 0 [] news) :
    CompSrcTp prog w A h₀ L m env elt x scope cl Fin (.ref ax) s₁ := ⟨ax, its, news, rfl, hh, F, N, ⟨_, hm, rfl, _, rfl⟩, hsz, fun _ ⟨g, e⟩ => e ▸ h g⟩

theorem SrcTp.tuple {h : Heap} {ax : Addr} {its : Array Value} {news : List (Addr × Obj)} (x : SrcTp ax its news) (N : News h₀ L h news) : h.IsTuple ax its := by
  obtain ⟨o, hm, r⟩ := x
  exact ⟨o, (N _ hm).1, r⟩

theorem tup_st {ax I : Addr} {its : Array Value} : ∀ i (h h' : Heap) (o : Obj) (nw : List (Addr × Obj)), (h.IsTupleIter I ax i ∧ h.IsTuple ax its) → h.get? I = some o → h'.get? I = some o → (∀ b o, h₀.get? b = some o → h'.get? b = some o) → News h₀ L h' nw → SrcTp ax its nw → (h'.IsTupleIter I ax i ∧ h'.IsTuple ax its) :=
  fun i h h' o nw st e e' k N S => ⟨by obtain ⟨o', q, r⟩ := st.1; rw [e] at q; cases q; exact ⟨o, e', r⟩, S.tuple N⟩

theorem ListComp_Tup {elt iter : Expr} {x : Str} {px : Pos} {scope : Scope} {cl : List (Str × Addr)} {pos : Pos} {Q : Value → Shared → Prop} (F₀ : Fr h₀ L s.heap m)
    (hclos : closureFor scope env = pure cl) (hcell : ∀ y ∈ scope.names, y.2 ≠ .cell) (hkind : scope.kind = .function)
    (hnames : ∀ y ∈ scope.names, y.2 = .local → scope.names.lookup y.1 = some .local) (hx : scope.names.lookup x = some .local)
    (h : wpAny (model prog w) A (eval iter env) (CompSrcTp prog w A h₀ L m env elt x scope cl (fun s₂ => FinE h₀ L m s₂ Q)) E s)
    (hs : ∀ x, foldedSetIterable iter env x = pure x := by intro _; rfl) :
    wpAny (model prog w) A (eval (.ListComp elt [⟨.Name x px, iter, [], 0⟩] scope pos) env) Q E s := by
  rw [eval_ListComp]
  refine wpAny_comprehension_free (use := none) rfl hs hclos hkind hnames (wpAny_mono h (fun xv s₁ h₁ => ?_) fun _ _ e => e)
  obtain ⟨ax, its, news, rfl, hh, F, N, S, hsz, R⟩ := h₁
  have hl := S.tuple N
  have hlt : ax < s₁.heap.objs.size := by obtain ⟨_, e, _⟩ := hl; exact Heap.lt_size e
  refine wpAny_pyIter_tuple hl ?_
  have up : ∀ b o, s₁.heap.get? b = some o → (s₁.heap.push { cls := .type "tuple_iterator", data := .fields #[.ref ax, .int 0 0] }).get? b = some o := fun b o e => Heap.get?_push_of_some _ e
  refine block_U (Walks.tuple hh s₁.heap.objs.size ax (Nat.ne_of_lt hlt) its) hsz (fun i h st => by obtain ⟨o, e, _⟩ := st.1; exact ⟨o, e⟩) tup_st hcell hkind hx ⟨⟨_, Heap.get?_push_size _ rfl, rfl, rfl⟩, hl.push _⟩ (fun b hb => ?_)
    (F.keeps up) (N.grown up) (Nat.ne_of_lt F.ns.lt) (next_is_new F) (fun p hp => Nat.ne_of_lt (Heap.lt_size (N p hp).1)) S (R _ ⟨_, rfl⟩) ?_
  · show b < (s₁.heap.push _).objs.size
    rw [Heap.size_push]
    rcases List.mem_cons.mp hb with rfl | hb
    · exact Nat.lt_succ_self _
    · rw [List.mem_singleton.mp hb]; exact Nat.lt_succ_of_lt hlt
  · intro D C h tk m' ys news' F' N' o1 hn hC₀ hD₀ hCL hDL hCD offC fin
    refine ⟨m', hn, fun h'' hs'' => fin D h'' tk (F'.change hs'' hCL hC₀) (fun p hp => ?_) o1⟩
    refine ⟨hs''.extBut _ _ ?_ (N' p hp).1, (N' p hp).2⟩
    rcases List.mem_cons.mp hp with rfl | hp
    · exact Ne.symm hCD
    · exact offC p hp
end

theorem allLt_ne {d e : Addr} {l : List (Addr × Obj)} (h : AllLt d l) (hde : @LE.le Nat _ d e) : ∀ p ∈ l, p.1 ≠ e := by
  induction l with
  | nil => exact fun _ hp => nomatch hp
  | cons q r ih =>
    intro p hp
    rcases List.mem_cons.mp hp with rfl | hp
    · exact Nat.ne_of_lt (Nat.lt_of_lt_of_le h.1 hde)
    · exact ih h.2 p hp
theorem allLt_ne' {d e : Addr} {l : List (Addr × Obj)} (h : ∀ p ∈ l, p.1 < d) (hde : @LE.le Nat _ d e) : ∀ p ∈ l, p.1 ≠ e := allLt_ne (allLt_of h) hde

theorem updF_mem {d : Addr} {o : Obj} {l : List (Addr × Obj)} {g : Obj → List (Addr × Obj)} (U : UpdF d o l g) (o' : Obj) : (d, o') ∈ g o' := by
  obtain ⟨pre, post, _, e, _, _⟩ := U.split
  rw [e]; simp
theorem updF_mem0 {d : Addr} {o : Obj} {l : List (Addr × Obj)} {g : Obj → List (Addr × Obj)} (U : UpdF d o l g) : (d, o) ∈ l := by
  obtain ⟨pre, post, e, _, _, _⟩ := U.split
  rw [e]; simp
theorem upd_at {d : Addr} {o o' : Obj} : ∀ {pre post : List (Addr × Obj)}, (∀ p ∈ pre, p.1 ≠ d) → (∀ p ∈ post, p.1 ≠ d) → Upd d o o' (pre ++ (d, o) :: post) (pre ++ (d, o') :: post)
  | [], _, _, h2 => Upd.head h2
  | _ :: _, _, h1, h2 => Upd.tail (h1 _ List.mem_cons_self) (upd_at (fun p hp => h1 p (List.mem_cons_of_mem _ hp)) h2)
theorem updF_upd {d : Addr} {o : Obj} {l : List (Addr × Obj)} {g : Obj → List (Addr × Obj)} (U : UpdF d o l g) (o₁ o₂ : Obj) : Upd d o₁ o₂ (g o₁) (g o₂) := by
  obtain ⟨pre, post, _, e, h1, h2⟩ := U.split
  rw [e, e]; exact upd_at h1 h2
theorem updF_upd0 {d : Addr} {o : Obj} {l : List (Addr × Obj)} {g : Obj → List (Addr × Obj)} (U : UpdF d o l g) (o₂ : Obj) : Upd d o o₂ l (g o₂) := by
  obtain ⟨pre, post, e1, e, h1, h2⟩ := U.split
  rw [e, e1]; exact upd_at h1 h2

/-- where a def is called, and what is wanted behind it -/
abbrev Spot (w : World) (p : Program) (loose : List Str) (mean : ExcName → Option Value) (mg mb : Str → Option Value) (room : Nat) (Body : List (Addr × Obj) → Heap → Addr → (Str → Option Value) → Shared → (Value → Shared → Prop) → Prop) (f : Addr) (vs : List Value) : Prop :=
  ∀ (dp un : Nat) (gd : Option (List Code)) (cn : Str) (kn : List (Str × NameKind)) (g1 g2 : Bool) (mo : List (Str × Const)) (a : Addr) (ccd : Value) (cl : List (Str × Addr)) (outer : List Env) (A₀ : Around) (base h₀ : Heap) (L : Addr) (m : Str → Option Value) (news : List (Addr × Obj)) (s : Shared) (Q E : Value → Shared → Prop),
    Below A₀ base outer h₀ → Fr h₀ L s.heap m → (hd.heap_39 w.params).In h₀ → News h₀ L s.heap news → Top p loose mean mg mb h₀ →
    dp + room < recursionLimit → un + 8 * room < cLine →
    Body news h₀ L m s Q →
    wpAny (model PySem.Challenge.rw_nt0536_01.row.prog w) (ktrTop dp un gd cn { kind := .function, names := kn, isGenerator := g1, isCoroutine := g2, more := mo } L a ccd cl outer) (call (.ref f) vs) Q E s

abbrev tup2 (x y : Int) (tx ty : Tok) (c : Nat) : Obj := { cls := .type "tuple", data := .seq #[.int x tx, .int y ty] c }
section
variable {prog : Program} {w : World} {A : Around} {E : Value → Shared → Prop} {s : Shared} {h₀ : Heap} {L : Addr} {news : List (Addr × Obj)}
theorem reads_tup2 {r : Addr} {x y : Int} {tx ty : Tok} {c : Nat} (N : News h₀ L s.heap news) (hm : (r, tup2 x y tx ty c) ∈ news) : Reads s.heap (.ref r) (.tuple [.int x, .int y]) [] :=
  reads_tuple_at (N.get hm) rfl rfl (ReadsAll.cons (Reads.int _ _) (ReadsAll.cons (Reads.int _ _) ReadsAll.nil))
theorem eqv_tup2 (x y u v : Int) : PyData.eqv (.tuple [.int x, .int y]) (.tuple [.int u, .int v]) = decide (x = u ∧ y = v) := by
  by_cases h1 : x = u <;> by_cases h2 : y = v <;> simp [PyData.eqv, PyData.eqvAll, h1, h2]
theorem eq_tup2 {r q : Addr} {x y u v : Int} {tx ty tu tv : Tok} {c d : Nat} {Q : Value → Shared → Prop} (N : News h₀ L s.heap news) (h1 : (r, tup2 x y tx ty c) ∈ news) (h2 : (q, tup2 u v tu tv d) ∈ news) (hu : A.units + 64 < cLine)
    (h : Q (.bool (decide (x = u ∧ y = v))) s) : wpAny (model prog w) A (compareOp .Eq (.ref r) (.ref q)) Q E s :=
  eq_dataH (reads_tup2 N h1) (reads_tup2 N h2) rfl rfl hu (by rw [eqv_tup2]; exact h)
theorem ne_tup2 {r q : Addr} {x y u v : Int} {tx ty tu tv : Tok} {c d : Nat} {Q : Value → Shared → Prop} (N : News h₀ L s.heap news) (h1 : (r, tup2 x y tx ty c) ∈ news) (h2 : (q, tup2 u v tu tv d) ∈ news) (hu : A.units + 64 < cLine)
    (h : Q (.bool (!decide (x = u ∧ y = v))) s) : wpAny (model prog w) A (compareOp .NotEq (.ref r) (.ref q)) Q E s :=
  ne_dataH (reads_tup2 N h1) (reads_tup2 N h2) rfl rfl hu (by rw [eqv_tup2]; exact h)
end
/-- the walk halts here -/
def Halt (P : Prop) : Prop := P
theorem Halt.of {P : Prop} (h : Halt P) : P := h
section
open PyProof.Rows.LCt
variable {prog : Program} {w : World} {A : Around} {h₀ : Heap} {L : Addr} {m : Str → Option Value} {env : Env}
/-- the turns of a comprehension with a test, by what holds between them -/
theorem restT_ind {ct elt : Expr} {x : Str} {scope : Scope} {cl : List (Str × Addr)} {s : Shared} {S : List (Addr × Obj) → Prop} {P : Nat → Value → Prop} {Fin : List Value → List (Addr × Obj) → Prop} {n : Nat} {news : List (Addr × Obj)}
    (J : Nat → List Value → Prop) (hS : S news)
    (step : ∀ i v ys I oI C oC D m₂ h tk (E' : Value → Shared → Prop), i < n → P i v → J i ys → NsObj oC m₂ → m₂ x = some v → Fr h₀ L h m → News h₀ L h ((I, oI) :: (C, oC) :: (D, lst ys) :: news) → Off3 I C D news → ((@Ne Nat I C) ∧ (@Ne Nat I D) ∧ (@Ne Nat C D)) →
      wpAny (model prog w) A (isTrue ct (compEnvC scope cl C env) (eval ct (compEnvC scope cl C env))) (fun ok s' => if ok = true then
        wpAny (model prog w) A (eval elt (compEnvC scope cl C env)) (fun y s₄ => Halt (∃ h' tk', s₄ = { s with heap := h', toks := tk' } ∧ Fr h₀ L h' m ∧ News h₀ L h' ((I, oI) :: (C, oC) :: (D, lst ys) :: news) ∧ J (i + 1) (ys ++ [y]))) E' s'
        else Halt (∃ h' tk', s' = { s with heap := h', toks := tk' } ∧ Fr h₀ L h' m ∧ News h₀ L h' ((I, oI) :: (C, oC) :: (D, lst ys) :: news) ∧ J (i + 1) ys)) E' { s with heap := h, toks := tk })
    (fin : ∀ ys, J n ys → Fin ys news) : ∀ k i ys, i + k = n → J i ys → CompRestT prog w A h₀ L m env ct elt x scope cl s S P Fin k i ys news := by
  intro k
  induction k with
  | zero => intro i ys e hJ; exact CompRestT.zero (fin ys (by rw [← e]; exact hJ))
  | succ k ih =>
    intro i ys e hJ
    refine CompRestT.succ fun v I oI C oC D m₂ h tk E' hP hoC hx F N off ne => ?_
    refine wpAny_mono (step i v ys I oI C oC D m₂ h tk E' (by omega) hP hJ hoC hx F N off ne) (fun ok s' hq => ?_) fun _ _ h => h
    cases ok with
    | true =>
      simp only [if_true] at hq ⊢
      refine wpAny_mono hq (fun y s₄ h₄ => ?_) fun _ _ h => h
      obtain ⟨h', tk', rfl, F', N', hJ'⟩ := h₄
      exact ⟨h', tk', news, rfl, F', N', off, hS, ih (i + 1) (ys ++ [y]) (by omega) hJ'⟩
    | false =>
      simp only [Bool.false_eq_true, if_false] at hq ⊢
      obtain ⟨h', tk', rfl, F', N', hJ'⟩ := hq
      exact ⟨h', tk', news, rfl, F', N', off, hS, ih (i + 1) ys (by omega) hJ'⟩
end
end Mine
/- C1 -/
namespace Mine
open PyProof.Rows.LCg
local macro_rules | `(tactic| k_room) => `(tactic| ktr_room)
local macro_rules | `(tactic| walk_at "eval ListComp") => `(tactic| (k_here; (first | (with_reducible show wpAny _ _ (eval (Expr.ListComp _ [⟨_, Expr.Name (Str.ofString "qtable") _, _, _⟩] _ _) _) _ _ _) | (with_reducible show wpAny _ _ (eval (Expr.ListComp _ [⟨_, Expr.Name (Str.ofString "base") _, _, _⟩] _ _) _) _ _ _)); k_dflt (refine ListComp_Tup (F₀ := by k_asm) (by with_unfolding_all rfl) (by decide) (by rfl) (by decide) (by rfl) ?_)))
local macro_rules | `(tactic| walk_at "CompSrcTp") => `(tactic| (k_here; k_dflt (refine CompSrcTp.intro (by rfl) (by k_asm) (by k_asm) (by k_mem) (by first | size_fits | exact Nat.le_of_ble_eq_true rfl) ?_; intro g'; lcg_lit)))
local macro_rules | `(tactic| lcg_src) => `(tactic| exact ⟨_, by k_mem, rfl, _, rfl⟩)
local macro_rules | `(tactic| k_mem) => `(tactic| ((repeat' first | exact List.mem_cons_self | assumption | refine List.mem_cons_of_mem _ ?_); done))
local macro_rules | `(tactic| walk_at "CompRest") => `(tactic| (with_unfolding_all (refine LCg.CompRest.succ ?_; intro v' I' oI' C' oC' D' m' h' tk' E' hv' hC' hx' F' N' off' ne'; (first | lcg_open hv' | (obtain ⟨t9', hv9'⟩ := hv'; subst hv9')); (have off2' := off'); (try simp only [LCg.Off3, and_true] at off2'))))
local macro_rules | `(tactic| walk_at "CompEnd") => `(tactic| ((rename News _ _ _ _ => nE'); refine LCg.CompEnd.intro (by assumption) nE' _ (by first | exact fun p hp => hp | exact fun p hp => List.mem_cons_of_mem _ hp) (by assumption) (by lcg_src) ?_))

def scaleOf (q : Int) : Int := if max 1 (min 100 q) < 50 then Int.fdiv 5000 (max 1 (min 100 q)) else 200 - 2 * max 1 (min 100 q)

theorem scale_bounds (q : Int) : 0 ≤ scaleOf q ∧ scaleOf q ≤ 5000 := by
  unfold scaleOf
  split
  · have h : (1 : Int) ≤ max 1 (min 100 q) := by omega
    generalize max 1 (min 100 q) = k at h
    rw [Int.fdiv_eq_ediv_of_nonneg _ (by omega)]
    exact ⟨Int.ediv_nonneg (by decide) (by omega), Int.le_trans (Int.ediv_le_self _ (by decide)) (by decide)⟩
  · omega

theorem scale_clamp (q : Int) : (if (if q < 100 then q else 100) > 1 then if q < 100 then q else 100 else 1) = max 1 (min 100 q) := by
  split <;> split at * <;> omega
theorem scale_lo (q : Int) (h : (if (if q < 100 then q else 100) > 1 then if q < 100 then q else 100 else 1) < 50) :
    Int.fdiv 5000 (if (if q < 100 then q else 100) > 1 then if q < 100 then q else 100 else 1) = scaleOf q := by
  rw [scale_clamp] at *
  unfold scaleOf
  rw [if_pos h]
theorem scale_hi (q : Int) (h : ¬ (if (if q < 100 then q else 100) > 1 then if q < 100 then q else 100 else 1) < 50) :
    (200 - 2 * if (if q < 100 then q else 100) > 1 then if q < 100 then q else 100 else 1) = scaleOf q := by
  rw [scale_clamp] at *
  unfold scaleOf
  rw [if_neg h]

abbrev RetInt (news : List (Addr × Obj)) (h₀ : Heap) (L : Addr) (m : Str → Option Value) (s : Shared) (Q : Value → Shared → Prop) (k : Int) : Prop :=
  ∀ (t : Tok) (h' : Heap) (tk' : Nat), Fr h₀ L h' m → News h₀ L h' news → Q (.int k t) { s with heap := h', toks := tk' }

theorem quality_scale_spec {w : World} {p : Program} {loose : List Str} {mean : ExcName → Option Value} {mg mb : Str → Option Value} (q : Int) (tq : Tok) :
    Spot w p loose mean mg mb 2 (fun news h₀ L m s Q => RetInt news h₀ L m s Q (scaleOf q)) 21 [.int q tq] := by
  unfold Spot; k_fill
  intro dp un gd cn kn g1 g2 mo' a ccd cl outer A₀ base h₀ L m news s Q E B F X N T hdp hun hret
  refine wpAny_call ?_
  k_dflt k_enter
  k_steps
  all_goals (refine cb_retI hret ?_ (by k_asm) (by k_asm); first | exact scale_lo _ (by assumption) | exact scale_hi _ (by assumption))
end Mine
/- C2 -/
namespace Mine
local macro_rules | `(tactic| walk_at "pad0") => `(tactic| fail)
open PyProof.Rows.LCg
local macro_rules | `(tactic| k_room) => `(tactic| ktr_room)
local macro_rules | `(tactic| walk_at "eval ListComp") => `(tactic| (k_here; (first | (with_reducible show wpAny _ _ (eval (Expr.ListComp _ [⟨_, Expr.Name (Str.ofString "qtable") _, _, _⟩] _ _) _) _ _ _) | (with_reducible show wpAny _ _ (eval (Expr.ListComp _ [⟨_, Expr.Name (Str.ofString "base") _, _, _⟩] _ _) _) _ _ _)); k_dflt (refine ListComp_Tup (F₀ := by k_asm) (by with_unfolding_all rfl) (by decide) (by rfl) (by decide) (by rfl) ?_)))
local macro_rules | `(tactic| walk_at "CompSrcTp") => `(tactic| (k_here; k_dflt (refine CompSrcTp.intro (by rfl) (by k_asm) (by k_asm) (by k_mem) (by first | size_fits | exact Nat.le_of_ble_eq_true rfl) ?_; intro g'; lcg_lit)))
local macro_rules | `(tactic| lcg_src) => `(tactic| exact ⟨_, by k_mem, rfl, _, rfl⟩)
local macro_rules | `(tactic| k_mem) => `(tactic| ((repeat' first | exact List.mem_cons_self | assumption | refine List.mem_cons_of_mem _ ?_); done))
local macro_rules | `(tactic| walk_at "CompRest") => `(tactic| (with_unfolding_all (refine LCg.CompRest.succ ?_; intro v' I' oI' C' oC' D' m' h' tk' E' hv' hC' hx' F' N' off' ne'; (first | lcg_open hv' | (obtain ⟨t9', hv9'⟩ := hv'; subst hv9')); (have off2' := off'); (try simp only [LCg.Off3, and_true] at off2'))))
local macro_rules | `(tactic| walk_at "CompEnd") => `(tactic| ((rename News _ _ _ _ => nE'); refine LCg.CompEnd.intro (by assumption) nE' _ (by first | exact fun p hp => hp | exact fun p hp => List.mem_cons_of_mem _ hp) (by assumption) (by lcg_src) ?_))

def capOf (x hu mo : Int) : Int := if (if (x * hu + 50).fdiv 100 < mo then (x * hu + 50).fdiv 100 else mo) > 1 then (if (x * hu + 50).fdiv 100 < mo then (x * hu + 50).fdiv 100 else mo) else 1

abbrev RetTup (news : List (Addr × Obj)) (h₀ : Heap) (L : Addr) (m : Str → Option Value) (s : Shared) (Q : Value → Shared → Prop) (u v : Int) : Prop :=
  ∀ (r : Addr) (a b : Tok) (t : Nat) (h' : Heap) (tk' : Nat), Fr h₀ L h' m → News h₀ L h' ((r, tup2 u v a b t) :: news) → AllLt r news → Q (.ref r) { s with heap := h', toks := tk' }

/-- a divisor of a base, and the greatest -/
abbrev Okd (x : Int) : Prop := 1 ≤ x ∧ x ≤ 100000000
theorem scaled_by_spec {w : World} {p : Program} {loose : List Str} {mean : ExcName → Option Value} {mg mb : Str → Option Value} (tp : Addr) (x y hu mo : Int) (tx ty t1 t2 : Tok) (c : Nat) :
    Spot w p loose mean mg mb 3 (fun news h₀ L m s Q => (tp, tup2 x y tx ty c) ∈ news ∧ Okd x ∧ Okd y ∧ (0 ≤ hu ∧ hu ≤ 5000) ∧ Okd mo ∧ RetTup news h₀ L m s Q (capOf x hu mo) (capOf y hu mo)) 26 [.ref tp, .int hu t1, .int mo t2] := by
  unfold Spot; k_fill
  intro dp un gd cn kn g1 g2 mo' a ccd cl outer A₀ base h₀ L m news s Q E B F X N T hdp hun ⟨hT, hx, hy, hhu, hmo, hret⟩
  refine wpAny_call ?_
  k_dflt k_enter
  k_steps
  case' _ =>
    rename (_ ∧ _ ∧ _ ∧ AllLt _ news) => hlt
    exact hret _ _ _ _ _ _ (by assumption) (cb_drop (by assumption) (List.forall_mem_cons.mpr ⟨List.mem_cons_self, fun p hp => by simp [hp]⟩)) hlt.2.2.2
end Mine
/- Z1 -/
namespace Mine
open PyProof.Rows.LCg

section
variable {prog : Program} {w : World} {A : Around} {E : Value → Shared → Prop} {s : Shared}

/-- the next item of a tuple's iterator, as zip draws it -/
theorem draw_tup {it t : Addr} {i : Nat} {items : Array Value} {x : Value} {Q : Value → Shared → Prop} (hit : s.heap.IsTupleIter it t i) (ht : s.heap.IsTuple t items) (hx : items[i]? = some x)
    (hQ : ∀ h', h'.IsTupleIter it t (i + 1) → Heap.SameBut it s.heap h' → Q x { s with heap := h' }) : wpAny (model prog w) A (Builtin.SmallTypes.nextOf (.ref it)) Q E s := by
  obtain ⟨o, ho, hc, hd⟩ := id hit
  obtain ⟨ol, hol, _, nl, hdl⟩ := ht
  unfold Builtin.SmallTypes.nextOf
  refine wpAny_bind (wpAny_callSpecial?_slot (name := Str.ofString "__next__") hit.typeIs PySem.F.slot_tuple_iterator_next
    (wpAny_call_entry PySem.F.slot_tuple_iterator_next hit.typeIs PySem.F.entry_tuple_iterator_next ?_ (PySem.F.args_tuple_iterator_next_1 _)))
  show wpAny _ _ (field (.ref it) 0 >>= _) _ _ s
  refine wpAny_bind (wpAny_field ho hd (x := .ref t) rfl ?_)
  show wpAny _ _ (if (Value.ref t == Value.none) = true then _ else _) _ _ s
  rw [if_neg (show ¬ ((Value.ref t == Value.none) = true) from Bool.false_ne_true)]
  show wpAny _ _ (field (.ref it) 1 >>= _) _ _ s
  refine wpAny_bind (wpAny_field ho hd (x := .int i 0) rfl ?_)
  show wpAny _ _ (seqItems? (.ref t) >>= _) _ _ s
  refine wpAny_bind (wpAny_seqItems hol hdl ?_)
  simp only [Int.toNat_natCast, hx]
  refine wpAny_bind (wpAny_setField ho hd (by simp) (wpAny_pure ⟨x, rfl, wpAny_pure (hQ _ ?_ (Heap.SameBut.update ..))⟩))
  exact ⟨_, Heap.get?_update_self _ ho (Obj.isFreed_of_fields (Obj.data_mapFields hd _)), (Obj.cls_mapFields ..).trans hc, by
    rw [Obj.data_mapFields hd]; simp [rawInt]⟩

theorem draw_tup_end {it t : Addr} {i : Nat} {items : Array Value} {Q : Value → Shared → Prop} (hh : A.handled = none) (hit : s.heap.IsTupleIter it t i) (ht : s.heap.IsTuple t items) (hx : items[i]? = none)
    (hE : ∀ h' e, Heap.ExtBut it s.heap h' → (∃ o, h'.get? e = some o ∧ o.cls = .type "StopIteration") → E (.ref e) { s with heap := h' }) :
    wpAny (model prog w) A (Builtin.SmallTypes.nextOf (.ref it)) Q E s := by
  obtain ⟨o, ho, hc, hd⟩ := id hit
  obtain ⟨ol, hol, _, nl, hdl⟩ := ht
  unfold Builtin.SmallTypes.nextOf
  refine wpAny_bind (wpAny_callSpecial?_slot (name := Str.ofString "__next__") hit.typeIs PySem.F.slot_tuple_iterator_next
    (wpAny_call_entry PySem.F.slot_tuple_iterator_next hit.typeIs PySem.F.entry_tuple_iterator_next ?_ (PySem.F.args_tuple_iterator_next_1 _)))
  show wpAny _ _ (field (.ref it) 0 >>= _) _ _ s
  refine wpAny_bind (wpAny_field ho hd (x := .ref t) rfl ?_)
  show wpAny _ _ (if (Value.ref t == Value.none) = true then _ else _) _ _ s
  rw [if_neg (show ¬ ((Value.ref t == Value.none) = true) from Bool.false_ne_true)]
  show wpAny _ _ (field (.ref it) 1 >>= _) _ _ s
  refine wpAny_bind (wpAny_field ho hd (x := .int i 0) rfl ?_)
  show wpAny _ _ (seqItems? (.ref t) >>= _) _ _ s
  refine wpAny_bind (wpAny_seqItems hol hdl ?_)
  simp only [Int.toNat_natCast, hx]
  refine wpAny_bind (wpAny_rule (wpAny_bind (wpAny_setField ho hd (by simp) ?_)))
  show wpAny _ _ (newExc (.type "StopIteration") [] >>= _) _ _ _
  refine wpAny_bind ?_
  simp only [newExc, newTuple]
  refine wpAny_bind (wpAny_newObj_type ?_ (by size_fits))
  refine wpAny_bind (m := firstArgMember _ _) (wpAny_of_eq (a := Value.none) (by first | rfl | (simp only [firstArgMember]; rfl)) ?_)
  refine wpAny_newObj_type ?_ (by size_fits)
  simp only [raiseNew]
  refine wpAny_bind (wpAny_handled ?_)
  first | rw [show A.in1.handled = none from hh] | rw [hh]
  refine wpAny_bind (wpAny_pure (wpAny_throw ?_))
  exact hE _ _ (((Heap.SameBut.update ..).extBut.push _).push _) ⟨_, Heap.get?_push_size _ rfl, rfl⟩

/-- the zip's own parts and the two iterators, at the i-th place -/
structure ZipIs (h : Heap) (b l1 l2 : Addr) (i : Nat) (f0 : Value) : Prop where
  zz : IsZip h (b + 4) (b + 2) (b + 3) f0
  ti : IsPair h (b + 2) (.ref b) (.ref (b + 1))
  to : ∃ p q, IsPair h (b + 3) p q
  i1 : h.IsTupleIter b l1 i
  i2 : h.IsTupleIter (b + 1) l2 i
theorem ZipIs.keep {h h' : Heap} {b l1 l2 : Addr} {i : Nat} {f0 : Value} (x : ZipIs h b l1 l2 i f0) (k : ∀ c o, @LE.le Nat _ b c → @LT.lt Nat _ c (b + 5) → h.get? c = some o → h'.get? c = some o) : ZipIs h' b l1 l2 i f0 where
  zz := k _ _ (Nat.le_add_right b 4) (Nat.lt_succ_self _) x.zz
  ti := k _ _ (Nat.le_add_right b 2) (by show @LT.lt Nat _ (b + 2) (b + 5); omega) x.ti
  to := let ⟨p, q, e⟩ := x.to; ⟨p, q, k _ _ (Nat.le_add_right b 3) (by show @LT.lt Nat _ (b + 3) (b + 5); omega) e⟩
  i1 := x.i1.at fun o e => k _ o (Nat.le_refl _) (by show @LT.lt Nat _ b (b + 5); omega) e
  i2 := x.i2.at fun o e => k _ o (Nat.le_add_right b 1) (by show @LT.lt Nat _ (b + 1) (b + 5); omega) e
end

section
variable {prog : Program} {w : World} {A : Around} {E : Value → Shared → Prop} {s : Shared}

theorem zipt_item {b l1 l2 : Addr} {i : Nat} {xs ys : Array Value} {x y : Value} {Q : Option Value → Shared → Prop} (hZ : ZipIs s.heap b l1 l2 i .none) (ht1 : s.heap.IsTuple l1 xs) (ht2 : s.heap.IsTuple l2 ys)
    (hb1 : @LT.lt Nat _ l1 b) (hb2 : @LT.lt Nat _ l2 b) (hx : xs[i]? = some x) (hy : ys[i]? = some y)
    (hQ : ∀ h', ZipIs h' b l1 l2 (i + 1) (rawInt s.heap.objs.size) → IsPair h' s.heap.objs.size x y → h'.objs.size = s.heap.objs.size + 1 →
      (∀ c o, (@LT.lt Nat _ c b ∨ @LE.le Nat _ (b + 5) c) → s.heap.get? c = some o → h'.get? c = some o) → Q (some (.ref s.heap.objs.size)) { s with heap := h' }) :
    wpAny (model prog w) A (pyNext (.ref (b + 4))) Q E s := by
  obtain ⟨hz, hTI, ⟨p, q, hTO⟩, h1, h2⟩ := hZ
  have hT : s.TypeIs (.ref (b + 4)) "zip" := ⟨_, hz, rfl⟩
  have n1 : l1 ≠ b + 4 := by show @Ne Nat _ _; omega
  have n2 : l1 ≠ b + 3 := by show @Ne Nat _ _; omega
  have n3 : l1 ≠ b := by show @Ne Nat _ _; omega
  have n4 : l2 ≠ b + 4 := by show @Ne Nat _ _; omega
  have n5 : l2 ≠ b + 3 := by show @Ne Nat _ _; omega
  have n6 : l2 ≠ b := by show @Ne Nat _ _; omega
  have n6' : l2 ≠ b + 1 := by show @Ne Nat _ _; omega
  have n7 : b ≠ b + 4 := by show @Ne Nat _ _; omega
  have n8 : b + 1 ≠ b + 4 := by show @Ne Nat _ _; omega
  have n9 : b + 3 ≠ b + 4 := by show @Ne Nat _ _; omega
  have n10 : b + 3 ≠ b := by show @Ne Nat _ _; omega
  have n11 : b + 3 ≠ b + 1 := by show @Ne Nat _ _; omega
  have n12 : b ≠ b + 1 := by show @Ne Nat _ _; omega
  have n13 : b + 2 ≠ b + 4 := by show @Ne Nat _ _; omega
  have n14 : b + 2 ≠ b + 3 := by show @Ne Nat _ _; omega
  have n15 : b + 2 ≠ b := by show @Ne Nat _ _; omega
  have n16 : b + 2 ≠ b + 1 := by show @Ne Nat _ _; omega
  unfold pyNext
  refine wpAny_bind (wpAny_attempt (wpAny_callSpecial?_slot (name := Str.ofString "__next__") hT PySem.F.slot_zip_next
    (wpAny_call_entry PySem.F.slot_zip_next hT PySem.F.entry_zip_next ?_ (PySem.F.args_zip_next_1 _))))
  show wpAny _ _ (field (.ref (b + 4)) 2 >>= _) _ _ _
  refine wpAny_bind (wpAny_field hz rfl (x := .bool false) rfl ?_)
  show wpAny _ _ (field (.ref (b + 4)) 3 >>= _) _ _ _
  refine wpAny_bind (wpAny_field hz rfl (x := .ref (b + 2)) rfl ?_)
  refine wpAny_bind (wpAny_seqItems hTI rfl ?_)
  show wpAny _ _ (Builtin.SmallTypes.ownedTupleIsFree (.ref (b + 4)) >>= _) _ _ _
  refine wpAny_bind ?_
  unfold Builtin.SmallTypes.ownedTupleIsFree
  refine wpAny_bind (wpAny_field hz rfl (x := .none) rfl (wpAny_pure ?_))
  simp only [if_true]
  refine wpAny_bind (wpAny_rule ?_)
  refine wpAny_bind (wpAny_field hz rfl (x := .ref (b + 3)) rfl ?_)
  refine wpAny_bind (wpAny_setField_rec hz (by simp) fun h₁ hz₁ hs₁ => ?_)
  replace hz₁ : IsZip h₁ (b + 4) (b + 2) (b + 3) .ellipsis := hz₁
  refine wpAny_bind ?_
  simp only [List.zipIdx_cons, List.zipIdx_nil, List.forIn_cons, List.forIn_nil]
  refine wpAny_bind (wpAny_bind (wpAny_onRaise ?_))
  show wpAny _ _ (Builtin.SmallTypes.nextOf (.ref b) >>= _) _ _ _
  refine wpAny_bind (draw_tup (h1.extBut hs₁.extBut n7) (ht1.extBut hs₁.extBut n1) hx fun h₂ h1₂ hs₂ => wpAny_pure ?_)
  have hTO₂ : IsPair h₂ (b + 3) p q := hs₂.extBut _ _ n10 (hs₁.extBut _ _ n9 hTO)
  refine wpAny_bind (wpAny_seqItems hTO₂ rfl ?_)
  refine wpAny_bind (wpAny_updateSeq_pair hTO₂ fun h₃ hTO₃ hs₃ => ?_)
  replace hTO₃ : IsPair h₃ (b + 3) x q := hTO₃
  refine wpAny_bind (wpAny_letGo (wpAny_pure ?_))
  refine wpAny_bind (wpAny_bind (wpAny_onRaise ?_))
  show wpAny _ _ (Builtin.SmallTypes.nextOf (.ref (b + 1)) >>= _) _ _ _
  refine wpAny_bind (draw_tup (((h2.extBut hs₁.extBut n8).extBut hs₂.extBut n12.symm).extBut hs₃.extBut n11.symm)
    (((ht2.extBut hs₁.extBut n4).extBut hs₂.extBut n6).extBut hs₃.extBut n5) hy fun h₄ h2₄ hs₄ => wpAny_pure ?_)
  have hTO₄ : IsPair h₄ (b + 3) x q := hs₄.extBut _ _ n11 hTO₃
  refine wpAny_bind (wpAny_seqItems hTO₄ rfl ?_)
  refine wpAny_bind (wpAny_updateSeq_pair hTO₄ fun h₅ hTO₅ hs₅ => ?_)
  replace hTO₅ : IsPair h₅ (b + 3) x y := hTO₅
  refine wpAny_bind (wpAny_letGo (wpAny_pure (wpAny_pure ?_)))
  refine wpAny_bind (wpAny_seqItems hTO₅ rfl ?_)
  refine wpAny_bind (wpAny_newTuple ?_)
  have hsz : h₅.objs.size = s.heap.objs.size := by rw [hs₅.1, hs₄.1, hs₃.1, hs₂.1, hs₁.1]
  have hz₅ : IsZip h₅ (b + 4) (b + 2) (b + 3) .ellipsis := hs₅.extBut _ _ n9.symm (hs₄.extBut _ _ n8.symm (hs₃.extBut _ _ n9.symm (hs₂.extBut _ _ n7.symm hz₁)))
  have hk₅ : ∀ c o, c ≠ b + 4 → c ≠ b + 3 → c ≠ b → c ≠ b + 1 → s.heap.get? c = some o → h₅.get? c = some o := fun c o c1 c2 c3 c4 e =>
    hs₅.extBut _ _ c2 (hs₄.extBut _ _ c4 (hs₃.extBut _ _ c2 (hs₂.extBut _ _ c3 (hs₁.extBut _ _ c1 e))))
  have h1₅ : h₅.IsTupleIter b l1 (i + 1) := ((h1₂.extBut hs₃.extBut n10.symm).extBut hs₄.extBut n12).extBut hs₅.extBut n10.symm
  have h2₅ : h₅.IsTupleIter (b + 1) l2 (i + 1) := h2₄.extBut hs₅.extBut n11.symm
  have hzlt : b + 4 < h₅.objs.size := Heap.lt_size hz₅
  show wpAny _ _ (Builtin.SmallTypes.ownedTupleHandOut (.ref (b + 4)) (.ref h₅.objs.size) >>= _) _ _ _
  refine wpAny_bind ?_
  unfold Builtin.SmallTypes.ownedTupleHandOut
  have hz₆ : IsZip (h₅.push { cls := .type "tuple", data := .seq #[x, y] }) (b + 4) (b + 2) (b + 3) .ellipsis := Heap.get?_push_of_some _ hz₅
  refine wpAny_bind (wpAny_setField_rec hz₆ (by simp) fun h₇ hz₇ hs₇ => ?_)
  replace hz₇ : IsZip h₇ (b + 4) (b + 2) (b + 3) (rawInt h₅.objs.size) := hz₇
  refine wpAny_setField_rec hz₇ (by simp) fun h₈ hz₈ hs₈ => ?_
  replace hz₈ : IsZip h₈ (b + 4) (b + 2) (b + 3) (rawInt h₅.objs.size) := hz₈
  have up : ∀ c o, c ≠ b + 4 → h₅.get? c = some o → h₈.get? c = some o := fun c o c1 e => hs₈.extBut _ _ c1 (hs₇.extBut _ _ c1 (Heap.get?_push_of_some _ e))
  have hT₈ : IsPair h₈ h₅.objs.size x y := hs₈.extBut _ _ (Nat.ne_of_gt hzlt) (hs₇.extBut _ _ (Nat.ne_of_gt hzlt) (Heap.get?_push_size _ rfl))
  have hz8 : h₈.objs.size = h₅.objs.size + 1 := by rw [hs₈.1, hs₇.1, Heap.size_push]
  rw [hsz] at hz₈ hT₈ hz8
  refine wpAny_pure ⟨_, rfl, ?_⟩
  refine wpAny_pure ?_
  show Q (some (.ref h₅.objs.size)) _
  rw [hsz]
  refine hQ h₈ ⟨hz₈, up _ _ n13 (hk₅ _ _ n13 n14 n15 n16 hTI), ⟨_, _, up _ _ n9 hTO₅⟩, h1₅.at fun o e => up _ o n7 e, h2₅.at fun o e => up _ o n8 e⟩ hT₈ hz8 fun c o hc e => ?_
  have c1 : c ≠ b + 4 := by show @Ne Nat _ _; omega
  have c2 : c ≠ b + 3 := by show @Ne Nat _ _; omega
  have c3 : c ≠ b := by show @Ne Nat _ _; omega
  have c4 : c ≠ b + 1 := by show @Ne Nat _ _; omega
  exact up c o c1 (hk₅ c o c1 c2 c3 c4 e)

theorem zipt_end {b l1 l2 : Addr} {i : Nat} {xs : Array Value} {Q : Option Value → Shared → Prop} (hh : A.handled = none) (hZ : ZipIs s.heap b l1 l2 i .none) (ht1 : s.heap.IsTuple l1 xs)
    (hb1 : @LT.lt Nat _ l1 b) (hx : xs[i]? = none)
    (hQ : ∀ h', (∀ c o, (@LT.lt Nat _ c b ∨ @LE.le Nat _ (b + 5) c) → s.heap.get? c = some o → h'.get? c = some o) → Q none { s with heap := h' }) :
    wpAny (model prog w) A (pyNext (.ref (b + 4))) Q E s := by
  obtain ⟨hz, hTI, ⟨p, q, hTO⟩, h1, h2⟩ := hZ
  have hT : s.TypeIs (.ref (b + 4)) "zip" := ⟨_, hz, rfl⟩
  have n1 : l1 ≠ b + 4 := by show @Ne Nat _ _; omega
  have n7 : b ≠ b + 4 := by show @Ne Nat _ _; omega
  unfold pyNext
  refine wpAny_bind (wpAny_attempt (wpAny_callSpecial?_slot (name := Str.ofString "__next__") hT PySem.F.slot_zip_next
    (wpAny_call_entry PySem.F.slot_zip_next hT PySem.F.entry_zip_next ?_ (PySem.F.args_zip_next_1 _))))
  show wpAny _ _ (field (.ref (b + 4)) 2 >>= _) _ _ _
  refine wpAny_bind (wpAny_field hz rfl (x := .bool false) rfl ?_)
  show wpAny _ _ (field (.ref (b + 4)) 3 >>= _) _ _ _
  refine wpAny_bind (wpAny_field hz rfl (x := .ref (b + 2)) rfl ?_)
  refine wpAny_bind (wpAny_seqItems hTI rfl ?_)
  show wpAny _ _ (Builtin.SmallTypes.ownedTupleIsFree (.ref (b + 4)) >>= _) _ _ _
  refine wpAny_bind ?_
  unfold Builtin.SmallTypes.ownedTupleIsFree
  refine wpAny_bind (wpAny_field hz rfl (x := .none) rfl (wpAny_pure ?_))
  simp only [if_true]
  refine wpAny_bind (wpAny_rule ?_)
  refine wpAny_bind (wpAny_field hz rfl (x := .ref (b + 3)) rfl ?_)
  refine wpAny_bind (wpAny_setField_rec hz (by simp) fun h₁ hz₁ hs₁ => ?_)
  replace hz₁ : IsZip h₁ (b + 4) (b + 2) (b + 3) .ellipsis := hz₁
  refine wpAny_bind ?_
  simp only [List.zipIdx_cons, List.zipIdx_nil, List.forIn_cons, List.forIn_nil]
  refine wpAny_bind (wpAny_bind (wpAny_onRaise ?_))
  show wpAny _ _ (Builtin.SmallTypes.nextOf (.ref b) >>= _) _ _ _
  refine wpAny_bind (draw_tup_end hh (h1.extBut hs₁.extBut n7) (ht1.extBut hs₁.extBut n1) hx fun h₂ e hs₂ he => ?_)
  obtain ⟨oe, hoe, hce⟩ := he
  have hz₂ : IsZip h₂ (b + 4) (b + 2) (b + 3) .ellipsis := hs₂ _ _ n7.symm hz₁
  have hez : e ≠ b + 4 := fun x => by subst x; rw [hz₂] at hoe; cases hoe; simp at hce
  refine wpAny_setField_rec hz₂ (by simp) fun h₃ _ hs₃ => ?_
  refine wpAny_bind (wpAny_isInstance (T := "StopIteration") (b := true) ⟨oe, hs₃.extBut _ _ hez hoe, hce⟩ isSubtype_stop ?_)
  refine wpAny_pure (hQ _ fun c o hc x => ?_)
  have c1 : c ≠ b + 4 := by show @Ne Nat _ _; omega
  have c3 : c ≠ b := by show @Ne Nat _ _; omega
  exact hs₃.extBut _ _ c1 (hs₂ _ _ c3 (hs₁.extBut _ _ c1 x))
end

abbrev tz1 (h : Heap) (l1 : Addr) : Heap := h.push { cls := .type "tuple_iterator", data := .fields #[.ref l1, .int 0 0] }
abbrev tz2 (h : Heap) (l1 l2 : Addr) : Heap := (tz1 h l1).push { cls := .type "tuple_iterator", data := .fields #[.ref l2, .int 0 0] }
abbrev tz3 (h : Heap) (l1 l2 : Addr) : Heap := (tz2 h l1 l2).push { cls := .type "tuple", data := .seq #[.ref h.objs.size, .ref (tz1 h l1).objs.size] }
abbrev tz4 (h : Heap) (l1 l2 : Addr) : Heap := (tz3 h l1 l2).push { cls := .type "tuple", data := .seq #[.none, .none] }
abbrev tz5 (h : Heap) (l1 l2 : Addr) : Heap := (tz4 h l1 l2).push { cls := .type "zip", data := .fields #[.none, .bool false, .bool false, .ref (tz2 h l1 l2).objs.size, .ref (tz3 h l1 l2).objs.size] }

theorem meets_zipt_new (l1 l2 : Addr) (xs ys : Array Value) :
    Meets (Builtin.«zip.__new__» ⟨[.type "zip", .ref l1, .ref l2], []⟩) (fun _ R s => s.heap.IsTuple l1 xs ∧ s.heap.IsTuple l2 ys ∧
      R (.ok (.ret (.ref (tz4 s.heap l1 l2).objs.size))) { s with heap := tz5 s.heap l1 l2 }) :=
  .of_wp fun prog w A R s h => by
    obtain ⟨hp, g, d, tk, os⟩ := s; obtain ⟨hl1, hl2, h⟩ := h
    have hsub := sub_zip
    have hL1 : Heap.IsTuple (Shared.heap ⟨hp, g, d, tk, os⟩) l1 xs := hl1
    have hL2 : Heap.IsTuple (Shared.heap ⟨hp.push { cls := .type "tuple_iterator", data := .fields #[.ref l1, .int 0 0] }, g, d, tk, os⟩) l2 ys := Heap.IsTuple.push hl2 _
    wp_walk using wpAny_pyIter_tuple hL1, wpAny_pyIter_tuple hL2
    exact ⟨_, rfl, h⟩

section
variable {prog : Program} {w : World} {A : Around} {E : Value → Shared → Prop} {s : Shared}

theorem call_zipt {l1 l2 : Addr} {xs ys : Array Value} {Q : Value → Shared → Prop} (hl1 : s.heap.IsTuple l1 xs) (hl2 : s.heap.IsTuple l2 ys)
    (h : ∀ h', ZipIs h' s.heap.objs.size l1 l2 0 .none → h'.objs.size = s.heap.objs.size + 5 → (∀ c o, s.heap.get? c = some o → h'.get? c = some o) → Q (.ref (s.heap.objs.size + 4)) { s with heap := h' }) :
    wpAny (model prog w) A (call (.type "zip") [.ref l1, .ref l2]) Q E s := by
  refine callType_new PySem.F.called_zip (by decide) (PySem.F.typeCall_zip_2 _ _) (PySem.F.newCall_zip_2 _ _) (fun obj => PySem.F.args_object_init_3 obj _ _) PySem.F.entry_zip_new
    (meets_zipt_new l1 l2 xs ys) ⟨hl1, hl2, ?_⟩
  have z1 : (tz1 s.heap l1).objs.size = s.heap.objs.size + 1 := Heap.size_push ..
  have z2 : (tz2 s.heap l1 l2).objs.size = s.heap.objs.size + 2 := by rw [Heap.size_push, z1]
  have z3 : (tz3 s.heap l1 l2).objs.size = s.heap.objs.size + 3 := by rw [Heap.size_push, z2]
  have z4 : (tz4 s.heap l1 l2).objs.size = s.heap.objs.size + 4 := by rw [Heap.size_push, z3]
  have z5 : (tz5 s.heap l1 l2).objs.size = s.heap.objs.size + 5 := by rw [Heap.size_push, z4]
  have g5 : (tz5 s.heap l1 l2).get? (tz4 s.heap l1 l2).objs.size = some _ := Heap.get?_push_size _ rfl
  have g4 : (tz5 s.heap l1 l2).get? (tz3 s.heap l1 l2).objs.size = some _ := Heap.get?_push_of_some _ (Heap.get?_push_size _ rfl)
  have g3 : (tz5 s.heap l1 l2).get? (tz2 s.heap l1 l2).objs.size = some _ := Heap.get?_push_of_some _ (Heap.get?_push_of_some _ (Heap.get?_push_size _ rfl))
  have g2 : (tz5 s.heap l1 l2).get? (tz1 s.heap l1).objs.size = some _ := Heap.get?_push_of_some _ (Heap.get?_push_of_some _ (Heap.get?_push_of_some _ (Heap.get?_push_size _ rfl)))
  have g1 : (tz5 s.heap l1 l2).get? s.heap.objs.size = some _ := Heap.get?_push_of_some _ (Heap.get?_push_of_some _ (Heap.get?_push_of_some _ (Heap.get?_push_of_some _ (Heap.get?_push_size _ rfl))))
  show _ ∧ _
  rw [z2, z3, z4] at g5
  rw [z1, z2] at g3
  rw [z3] at g4
  rw [z1] at g2
  rw [z4]
  exact ⟨⟨_, g5, rfl⟩, h _ ⟨g5, g3, ⟨_, _, g4⟩, ⟨_, g1, rfl, rfl⟩, ⟨_, g2, rfl, rfl⟩⟩ z5 fun c o x =>
    Heap.get?_push_of_some _ (Heap.get?_push_of_some _ (Heap.get?_push_of_some _ (Heap.get?_push_of_some _ (Heap.get?_push_of_some _ x))))⟩

theorem zipt_go {b l1 l2 T : Addr} {i : Nat} {elts : List Expr} {k : Nat} {pos : Pos} {Q : Unit → Shared → Prop} (hZ : ZipIs s.heap b l1 l2 i (rawInt T))
    (hQ : ∀ h', ZipIs h' b l1 l2 i .none → Heap.SameBut (b + 4) s.heap h' → Q () { s with heap := h' }) :
    wpAny (model prog w) A (letOwnedTupleGo (.Tuple elts k pos) (.ref (b + 4)) (.ref T)) Q E s := by
  have n7 : b ≠ b + 4 := by show @Ne Nat _ _; omega
  have n8 : b + 1 ≠ b + 4 := by show @Ne Nat _ _; omega
  have n9 : b + 3 ≠ b + 4 := by show @Ne Nat _ _; omega
  have n13 : b + 2 ≠ b + 4 := by show @Ne Nat _ _; omega
  obtain ⟨hz, hTI, ⟨p, q, hTO⟩, h1, h2⟩ := hZ
  exact wpAny_letOwnedTupleGo_zip hz fun h' hz' hs' => hQ h' ⟨hz', hs'.extBut _ _ n13 hTI, ⟨_, _, hs'.extBut _ _ n9 hTO⟩, h1.extBut hs'.extBut n7, h2.extBut hs'.extBut n8⟩ hs'
end

section
variable {prog : Program} {w : World} {A : Around} {E : Value → Shared → Prop} {s : Shared} {h₀ : Heap} {L : Addr} {m : Str → Option Value} {env : Env}

/-- a comprehension's turns over a zip of two tuples of one length; its elements change nothing that stands -/
theorem block_Zip {elt iter : Expr} {a c : Str} {pa pc tp : Pos} {kk : Nat} {scope : Scope} {cl : List (Str × Addr)} {pos : Pos} {s₂ : Shared} {b l1 l2 : Addr} {xs ys : Array Value} {news : List (Addr × Obj)} {Rel : Nat → List Value → Prop}
    {RR : Value → Addr → Result → Shared → Prop}
    (hh : A.handled = none) (hxy : xs.size = ys.size) (hsz : xs.size ≤ sizeLine)
    (hcell : ∀ y ∈ scope.names, y.2 ≠ .cell) (hkind : scope.kind = .function) (hxa : scope.names.lookup a = some .local) (hxc : scope.names.lookup c = some .local) (hac : ¬ a = c)
    (hZ : ZipIs s₂.heap b l1 l2 0 .none) (hbs : s₂.heap.objs.size = b + 5) (hb1 : @LT.lt Nat _ l1 b) (hb2 : @LT.lt Nat _ l2 b) (S1 : SrcTp l1 xs news) (S2 : SrcTp l2 ys news) (hnb : ∀ p ∈ news, @LT.lt Nat _ p.1 b) (hLb : @LT.lt Nat _ L b)
    (F : Fr h₀ L s₂.heap m) (N : News h₀ L s₂.heap news) (h₀b : @LE.le Nat _ h₀.objs.size b) (hR0 : Rel 0 [])
    (helt : ∀ i x y C oC m₂ h tk zs (own : List (Addr × Obj)) (E' : Value → Shared → Prop), xs[i]? = some x → ys[i]? = some y → NsObj oC m₂ → m₂ a = some x → m₂ c = some y → Fr h₀ L h m → News h₀ L h ((C, oC) :: (own ++ news)) → Rel i zs →
      wpAny (model prog w) A (eval elt (compEnvC scope cl C env)) (fun v s' => Halt (∃ h' tk', s' = { s₂ with heap := h', toks := tk' } ∧ Fr h₀ L h' m ∧ News h₀ L h' ((C, oC) :: (own ++ news)) ∧ Rel (i + 1) (zs ++ [v]))) E' { s₂ with heap := h, toks := tk })
    (hRR : ∀ D C h tk m' zs, Fr h₀ L h m → News h₀ L h ((D, lst zs) :: news) → (∀ p ∈ news, @LT.lt Nat _ p.1 D) → h.Ns C m' → h₀.get? C = none → h₀.get? D = none → C ≠ L → D ≠ L → C ≠ D → (∀ p ∈ news, p.1 ≠ C) → Rel xs.size zs → RR (.ref D) C (.ok .next) { s₂ with heap := h, toks := tk }) :
    wpAny (model prog w) A (newList []) (fun acc s₃ => wpAny (model prog w) A (newFunctionEnv scope env.globals cl [] env.qual none .none (some env)) (fun cenv s₄ =>
      codeAny (model prog w) A (.compStart (.ListComp elt [⟨.Tuple [.Name a pa, .Name c pc] kk tp, iter, [], 0⟩] scope pos) 0 (.ref (b + 4)) acc { cenv with scope := relabel scope env }) (RR acc cenv.locals) s₄) E s₃) E s₂ := by
  refine wpAny_newObj_type (wpAny_newFunctionEnv hcell (by intro y hy; simp at hy) (fun h₁ hns₁ hsb₁ => ?_) hkind)
  dsimp only at hns₁ hsb₁ ⊢
  generalize hH2 : s₂.heap.push { cls := .type "list", dict := none, data := .seq ([] : List Value).toArray } = H2 at hns₁ hsb₁ ⊢
  have hC : H2.objs.size = b + 6 := by rw [← hH2, Heap.size_push, hbs]
  rw [hC] at hns₁ hsb₁ ⊢
  rw [hbs]
  have hDC : b + 5 ≠ b + 6 := by show @Ne Nat _ _; omega
  have old : ∀ e o, s₂.heap.get? e = some o → h₁.get? e = some o := fun e o x => hsb₁.extBut e o (fun q => by have := Heap.lt_size x; rw [hbs, q] at this; exact absurd this (by show ¬ @LT.lt Nat _ (b + 6) (b + 5); omega)) (Heap.get?_push_of_some _ (hH2 ▸ Heap.get?_push_of_some _ x))
  have hacc : h₁.get? (b + 5) = some (lst []) := hsb₁.extBut _ _ hDC (Heap.get?_push_of_some _ (by rw [← hH2, ← hbs]; exact Heap.get?_push_size _ rfl))
  have fresh₀ : ∀ e, @LE.le Nat _ b e → h₀.get? e = none := fun e he => Heap.get?_none_of_le (Nat.le_trans h₀b he)
  have hD₀ : h₀.get? (b + 5) = none := fresh₀ _ (by show @LE.le Nat _ b (b + 5); omega)
  have hC₀ : h₀.get? (b + 6) = none := fresh₀ _ (by show @LE.le Nat _ b (b + 6); omega)
  have hCL : b + 6 ≠ L := by show @Ne Nat _ _; omega
  have hDL : b + 5 ≠ L := by show @Ne Nat _ _; omega
  have offC : ∀ p ∈ news, p.1 ≠ b + 6 := fun p hp => by have := hnb p hp; show @Ne Nat _ _; omega
  have loop : ∀ s₃ : Shared, s₃ = { s₂ with heap := h₁, toks := s₂.toks + ([] : List (Str × Value)).length } →
      codeAny (model prog w) A (.compLoop (.ListComp elt [⟨.Tuple [.Name a pa, .Name c pc] kk tp, iter, [], 0⟩] scope pos) 0 (.ref (b + 4)) (.ref (b + 5)) (compEnvC scope cl (b + 6) env))
        (RR (.ref (b + 5)) (b + 6)) s₃ := by
    rintro s₃ rfl
    refine kcp_loop
      (fun k s' => ∃ h' tk i zs m', s' = { s₂ with heap := h', toks := tk } ∧ i ≤ xs.size ∧ k = xs.size + 1 - i ∧ zs.length = i ∧ ZipIs h' b l1 l2 i .none ∧ Fr h₀ L h' m ∧ h'.Ns (b + 6) m' ∧
        News h₀ L h' ((b + 5, lst zs) :: news) ∧ Rel i zs) ?_ (xs.size + 1)
      ⟨h₁, _, 0, [], _, rfl, Nat.zero_le _, rfl, rfl, hZ.keep fun e o _ _ x => old e o x, F.keeps old, hns₁, fun p hp => ?_, hR0⟩
    · rintro k s' ⟨h', tk, i, zs, m', rfl, hi, rfl, hzl, hZ', F', hn', N', hR'⟩
      have Nn : News h₀ L h' news := fun p hp => N' p (List.mem_cons_of_mem _ hp)
      have T1 : h'.IsTuple l1 xs := S1.tuple Nn
      have T2 : h'.IsTuple l2 ys := S2.tuple Nn
      by_cases hlt : i < xs.size
      · have hx : xs[i]? = some xs[i] := Array.getElem?_eq_getElem hlt
        have hy : ys[i]? = some (ys[i]'(hxy ▸ hlt)) := Array.getElem?_eq_getElem (hxy ▸ hlt)
        have hsize' : @LE.le Nat _ (b + 7) h'.objs.size := hn'.lt
        refine zipt_item hZ' T1 T2 hb1 hb2 hx hy fun h₂ hZ₂ hT₂ hsz₂ hk₂ => ?_
        dsimp only at hZ₂ hT₂ hsz₂ hk₂ ⊢
        refine zipt_go hZ₂ fun h₃ hZ₃ hs₃ => ?_
        have hT₃ : h₃.IsTuple h'.objs.size #[xs[i], ys[i]'(hxy ▸ hlt)] := ⟨_, hs₃.extBut _ _ (by show @Ne Nat _ _; omega) hT₂, rfl, _, rfl⟩
        have up₃ : ∀ e o, (@LT.lt Nat _ e b ∨ @LE.le Nat _ (b + 5) e) → h'.get? e = some o → h₃.get? e = some o := fun e o he x => hs₃.extBut e o (by show @Ne Nat _ _; omega) (hk₂ e o he x)
        refine kcp_assign (env := compEnvC scope cl (b + 6) env) hh hT₃ (lookup_relabel_local hxa) (lookup_relabel_local hxc) (by simp [compEnvC, relabel, hkind]) (hn'.at' fun o x => up₃ _ o (.inr (by show @LE.le Nat _ (b + 5) (b + 6); omega)) x) fun h₄ tk₄ hn₄ hs₄ => ?_
        have up : ∀ e o, (@LT.lt Nat _ e b ∨ @LE.le Nat _ (b + 5) e) → e ≠ b + 6 → h'.get? e = some o → h₄.get? e = some o := fun e o he h2 x => hs₄ e o h2 (up₃ e o he x)
        have hZ₄ : ZipIs h₄ b l1 l2 (i + 1) .none := hZ₃.keep fun e o _ h2 x => hs₄ e o (by show @Ne Nat e (b + 6); omega) x
        obtain ⟨oC, heC, hoC⟩ := ns_obj hn₄
        have F₄ : Fr h₀ L h₄ m := ⟨F'.ns.at' fun o x => up _ o (.inl hLb) (Ne.symm hCL) x, fun e o x => up e o (.inl (Nat.lt_of_lt_of_le (Heap.lt_size x) h₀b)) (fun q => by rw [q, hC₀] at x; cases x) (F'.keep e o x), F'.above⟩
        have N₄ : News h₀ L h₄ ((b + 5, lst zs) :: news) := fun q hq => by
          have z := N' q hq
          rcases List.mem_cons.mp hq with rfl | hq
          · exact ⟨up _ _ (.inr (Nat.le_refl _)) hDC z.1, z.2⟩
          · exact ⟨up _ _ (.inl (hnb q hq)) (offC q hq) z.1, z.2⟩
        obtain ⟨o1, e1, _⟩ := id hZ₄.i1
        obtain ⟨o2, e2, _⟩ := id hZ₄.i2
        obtain ⟨p1, p2, e3⟩ := hZ₄.to
        have nw : ∀ e, @LE.le Nat _ b e → e ≠ L ∧ h₀.get? e = none := fun e he => ⟨by show @Ne Nat _ _; omega, fresh₀ e he⟩
        have N₅ : News h₀ L h₄ ((b + 6, oC) :: ([(b + 4, { cls := .type "zip", dict := none, data := .fields #[.none, .bool false, .bool false, .ref (b + 2), .ref (b + 3)], slots := #[] }), (b + 2, { cls := .type "tuple", data := .seq #[.ref b, .ref (b + 1)] }), (b + 3, { cls := .type "tuple", data := .seq #[p1, p2] }), (b, o1), (b + 1, o2), (b + 5, lst zs)] ++ news)) := fun q hq => by
          rcases List.mem_cons.mp hq with rfl | hq
          · exact ⟨heC, hCL, hC₀⟩
          rcases List.mem_append.mp hq with hq | hq
          · simp only [List.mem_cons, List.not_mem_nil, or_false] at hq
            rcases hq with rfl | rfl | rfl | rfl | rfl | rfl
            · exact ⟨hZ₄.zz, nw _ (by show @LE.le Nat _ b (b + 4); omega)⟩
            · exact ⟨hZ₄.ti, nw _ (by show @LE.le Nat _ b (b + 2); omega)⟩
            · exact ⟨e3, nw _ (by show @LE.le Nat _ b (b + 3); omega)⟩
            · exact ⟨e1, nw _ (Nat.le_refl _)⟩
            · exact ⟨e2, nw _ (by show @LE.le Nat _ b (b + 1); omega)⟩
            · exact N₄ _ List.mem_cons_self
          · exact N₄ q (List.mem_cons_of_mem _ hq)
        refine wpAny_mono (helt i _ _ (b + 6) oC _ h₄ _ zs _ _ hx hy hoC (by simp [hac]) (by simp) F₄ N₅ hR') (fun y s₅ h₅ => ?_) fun _ _ e => e
        obtain ⟨h₅, tk₅, rfl, F₅, N₅', hR₅⟩ := h₅
        have get₅ : ∀ q ∈ ((b + 6, oC) :: ([(b + 4, { cls := .type "zip", dict := none, data := .fields #[.none, .bool false, .bool false, .ref (b + 2), .ref (b + 3)], slots := #[] }), (b + 2, { cls := .type "tuple", data := .seq #[.ref b, .ref (b + 1)] }), (b + 3, { cls := .type "tuple", data := .seq #[p1, p2] }), (b, o1), (b + 1, o2), (b + 5, lst zs)] ++ news) : List (Addr × Obj)), h₅.get? q.1 = some q.2 := fun q hq => (N₅' q hq).1
        have zD : h₅.get? (b + 5) = some (lst zs) := get₅ (b + 5, lst zs) (by simp)
        have zC : h₅.get? (b + 6) = some oC := get₅ (b + 6, oC) (by simp)
        have hZ₅ : ZipIs h₅ b l1 l2 (i + 1) .none := by
          obtain ⟨_, _, _, i1, i2⟩ := hZ₄
          refine ⟨get₅ (b + 4, _) (by simp), get₅ (b + 2, _) (by simp), ⟨p1, p2, get₅ (b + 3, _) (by simp)⟩, i1.at fun o x => ?_, i2.at fun o x => ?_⟩
          · rw [e1] at x; cases x; exact get₅ (b, o1) (by simp)
          · rw [e2] at x; cases x; exact get₅ (b + 1, o2) (by simp)
        refine append_at (hsz := by show zs.toArray.size ≤ sizeLine; rw [List.size_toArray, hzl]; exact Nat.le_trans hi hsz) zD fun h₆ hs₆ hD₆ => ?_
        refine ⟨xs.size + 1 - (i + 1), by omega, h₆, tk₅, i + 1, zs ++ [y], _, rfl, hlt, rfl, by rw [List.length_append, List.length_singleton, hzl], hZ₅.keep fun e o _ h2 x => hs₆.extBut e o (by show @Ne Nat e (b + 5); omega) x, F₅.change hs₆ hDL hD₀,
          (hoC.ns zC).sameBut hs₆ (Ne.symm hDC), fun q hq => ?_, hR₅⟩
        rcases List.mem_cons.mp hq with rfl | hq
        · exact ⟨hD₆.trans (congrArg some (lst_snoc zs y)), hDL, hD₀⟩
        · have z := N₅' q (List.mem_cons_of_mem _ (List.mem_append_right _ hq))
          exact ⟨hs₆.extBut _ _ (by have := hnb q hq; show @Ne Nat _ _; omega) z.1, z.2⟩
      · have hin : i = xs.size := Nat.le_antisymm hi (Nat.not_lt.mp hlt)
        subst hin
        refine zipt_end hh hZ' T1 hb1 (Array.getElem?_eq_none (Nat.le_refl _)) fun h₂ hk₂ => ?_
        dsimp only at hk₂ ⊢
        refine hRR (b + 5) (b + 6) h₂ _ _ zs ⟨F'.ns.at' fun o x => hk₂ _ o (.inl hLb) x, fun e o x => hk₂ e o (.inl (Nat.lt_of_lt_of_le (Heap.lt_size x) h₀b)) (F'.keep e o x), F'.above⟩ (fun q hq => ?_) (fun p hp => by have := hnb p hp; show @LT.lt Nat _ _ (b + 5); omega)
          (hn'.at' fun o x => hk₂ _ o (.inr (by show @LE.le Nat _ (b + 5) (b + 6); omega)) x) hC₀ hD₀ hCL hDL (Ne.symm hDC) offC hR'
        have z := N' q hq
        rcases List.mem_cons.mp hq with rfl | hq
        · exact ⟨hk₂ _ _ (.inr (Nat.le_refl _)) z.1, z.2⟩
        · exact ⟨hk₂ _ _ (.inl (hnb q hq)) z.1, z.2⟩
    · rcases List.mem_cons.mp hp with rfl | hp
      · exact ⟨hacc, hDL, hD₀⟩
      · exact ⟨old _ _ (N p hp).1, (N p hp).2⟩
  exact codeAny_compStart_list (loop _ rfl) (wpAny_pyIter_zip (hZ.keep fun e o _ _ x => old e o x).zz (loop _ rfl))
end

section
variable {prog : Program} {w : World} {A : Around} {E : Value → Shared → Prop} {s : Shared} {h₀ : Heap} {L : Addr} {m : Str → Option Value} {env : Env}

def SrcZip (prog : Program) (w : World) (A : Around) (h₀ : Heap) (L : Addr) (m : Str → Option Value) (env : Env) (elt : Expr) (a c : Str) (scope : Scope) (cl : List (Str × Addr)) (Q : Value → Shared → Prop) (xv : Value) (s₁ : Shared) : Prop :=
  ∃ (b l1 l2 : Addr) (xs ys : Array Value) (news : List (Addr × Obj)) (Rel : Nat → List Value → Prop), xv = .ref (b + 4) ∧ A.handled = none ∧ xs.size = ys.size ∧ xs.size ≤ sizeLine ∧ ZipIs s₁.heap b l1 l2 0 .none ∧ s₁.heap.objs.size = b + 5 ∧
    @LT.lt Nat _ l1 b ∧ @LT.lt Nat _ l2 b ∧ SrcTp l1 xs news ∧ SrcTp l2 ys news ∧ (∀ p ∈ news, @LT.lt Nat _ p.1 b) ∧ @LT.lt Nat _ L b ∧ Fr h₀ L s₁.heap m ∧ News h₀ L s₁.heap news ∧ @LE.le Nat _ h₀.objs.size b ∧ Rel 0 [] ∧
    (∀ i x y C oC m₂ h tk zs (own : List (Addr × Obj)) (E' : Value → Shared → Prop), xs[i]? = some x → ys[i]? = some y → NsObj oC m₂ → m₂ a = some x → m₂ c = some y → Fr h₀ L h m → News h₀ L h ((C, oC) :: (own ++ news)) → Rel i zs →
      wpAny (model prog w) A (eval elt (compEnvC scope cl C env)) (fun v s' => Halt (∃ h' tk', s' = { s₁ with heap := h', toks := tk' } ∧ Fr h₀ L h' m ∧ News h₀ L h' ((C, oC) :: (own ++ news)) ∧ Rel (i + 1) (zs ++ [v]))) E' { s₁ with heap := h, toks := tk }) ∧
    ∀ D h tk zs, Fr h₀ L h m → News h₀ L h ((D, lst zs) :: news) → (∀ p ∈ news, @LT.lt Nat _ p.1 D) → Rel xs.size zs → Q (.ref D) { s₁ with heap := h, toks := tk }

theorem SrcZip.call {elt : Expr} {a c : Str} {scope : Scope} {cl : List (Str × Addr)} {Q : Value → Shared → Prop} {l1 l2 : Addr} {xs ys : Array Value} {n1 n2 : Nat} {news : List (Addr × Obj)} (Rel : Nat → List Value → Prop)
    (hh : A.handled = none) (F : Fr h₀ L s.heap m) (N : News h₀ L s.heap news) (hm1 : (l1, ({ cls := .type "tuple", data := .seq xs n1 } : Obj)) ∈ news) (hm2 : (l2, ({ cls := .type "tuple", data := .seq ys n2 } : Obj)) ∈ news) (hxy : xs.size = ys.size) (hsz : xs.size ≤ sizeLine) (hR0 : Rel 0 [])
    (helt : ∀ i x y C oC m₂ h tk zs (own : List (Addr × Obj)) (E' : Value → Shared → Prop), xs[i]? = some x → ys[i]? = some y → NsObj oC m₂ → m₂ a = some x → m₂ c = some y → Fr h₀ L h m → News h₀ L h ((C, oC) :: (own ++ news)) → Rel i zs →
      wpAny (model prog w) A (eval elt (compEnvC scope cl C env)) (fun v s' => Halt (∃ h' tk', s' = { s with heap := h', toks := tk' } ∧ Fr h₀ L h' m ∧ News h₀ L h' ((C, oC) :: (own ++ news)) ∧ Rel (i + 1) (zs ++ [v]))) E' { s with heap := h, toks := tk })
    (hQ : ∀ D h tk zs, Fr h₀ L h m → News h₀ L h ((D, lst zs) :: news) → (∀ p ∈ news, @LT.lt Nat _ p.1 D) → Rel xs.size zs → Q (.ref D) { s with heap := h, toks := tk }) :
    wpAny (model prog w) A (call (.type "zip") [.ref l1, .ref l2]) (SrcZip prog w A h₀ L m env elt a c scope cl Q) E s := by
  have t1 : s.heap.IsTuple l1 xs := ⟨_, (N _ hm1).1, rfl, _, rfl⟩
  have t2 : s.heap.IsTuple l2 ys := ⟨_, (N _ hm2).1, rfl, _, rfl⟩
  have hLlt : L < s.heap.objs.size := F.ns.lt
  exact call_zipt t1 t2 fun h' hZ hs hk => ⟨s.heap.objs.size, l1, l2, xs, ys, news, Rel, rfl, hh, hxy, hsz, hZ, hs, Heap.lt_size (N _ hm1).1, Heap.lt_size (N _ hm2).1, ⟨_, hm1, rfl, _, rfl⟩, ⟨_, hm2, rfl, _, rfl⟩,
    fun p hp => Heap.lt_size (N p hp).1, hLlt, F.keeps hk, fun p hp => ⟨hk _ _ (N p hp).1, (N p hp).2⟩, Nat.le_trans F.above (Nat.le_of_lt hLlt), hR0, helt, hQ⟩

theorem ListComp_Zip {elt iter : Expr} {a c : Str} {pa pc tp : Pos} {kk : Nat} {scope : Scope} {cl : List (Str × Addr)} {pos : Pos} {Q : Value → Shared → Prop} (hF₀ : Fr h₀ L s.heap m)
    (hclos : closureFor scope env = pure cl) (hcell : ∀ y ∈ scope.names, y.2 ≠ .cell) (hkind : scope.kind = .function)
    (hnames : ∀ y ∈ scope.names, y.2 = .local → scope.names.lookup y.1 = some .local) (hxa : scope.names.lookup a = some .local) (hxc : scope.names.lookup c = some .local) (hac : ¬ a = c)
    (h : wpAny (model prog w) A (eval iter env) (SrcZip prog w A h₀ L m env elt a c scope cl Q) E s)
    (hs : ∀ x, foldedSetIterable iter env x = pure x := by intro _; rfl) :
    wpAny (model prog w) A (eval (.ListComp elt [⟨.Tuple [.Name a pa, .Name c pc] kk tp, iter, [], 0⟩] scope pos) env) Q E s := by
  rw [eval_ListComp]
  refine wpAny_comprehension_free (use := none) rfl hs hclos hkind hnames (wpAny_mono h (fun xv s₁ h₁ => ?_) fun _ _ e => e)
  obtain ⟨b, l1, l2, xs, ys, news, Rel, rfl, hh, hxy, hsz, hZ, hbs, hb1, hb2, S1, S2, hnb, hLb, F, N, h₀b, hR0, helt, hQ⟩ := h₁
  refine wpAny_pyIter_zip hZ.zz ?_
  refine block_Zip (xs := xs) (ys := ys) (Rel := Rel) hh hxy hsz hcell hkind hxa hxc hac hZ hbs hb1 hb2 S1 S2 hnb hLb F N h₀b hR0 helt ?_
  intro D C h tk m' zs F' N' lD hn hC₀ hD₀ hCL hDL hCD offC hR
  refine ⟨m', hn, fun h'' hs'' => hQ D h'' tk zs (F'.change hs'' hCL hC₀) (fun p hp => ?_) lD hR⟩
  refine ⟨hs''.extBut _ _ ?_ (N' p hp).1, (N' p hp).2⟩
  rcases List.mem_cons.mp hp with rfl | hp
  · exact Ne.symm hCD
  · exact offC p hp
end
end Mine
/- C3 -/
namespace Mine
open PyProof.Rows.LCg
local macro_rules | `(tactic| k_room) => `(tactic| ktr_room)
local macro_rules | `(tactic| walk_at "eval ListComp") => `(tactic| (k_here; (first | (with_reducible show wpAny _ _ (eval (Expr.ListComp _ [⟨_, Expr.Name (Str.ofString "qtable") _, _, _⟩] _ _) _) _ _ _) | (with_reducible show wpAny _ _ (eval (Expr.ListComp _ [⟨_, Expr.Name (Str.ofString "base") _, _, _⟩] _ _) _) _ _ _)); k_dflt (refine ListComp_Tup (F₀ := by k_asm) (by with_unfolding_all rfl) (by decide) (by rfl) (by decide) (by rfl) ?_)))
local macro_rules | `(tactic| walk_at "CompSrcTp") => `(tactic| (k_here; k_dflt (refine CompSrcTp.intro (by rfl) (by k_asm) (by k_asm) (by k_mem) (by first | size_fits | exact Nat.le_of_ble_eq_true rfl) ?_; intro g'; lcg_lit)))
local macro_rules | `(tactic| lcg_src) => `(tactic| exact ⟨_, by k_mem, rfl, _, rfl⟩)
local macro_rules | `(tactic| k_mem) => `(tactic| ((repeat' first | exact List.mem_cons_self | assumption | refine List.mem_cons_of_mem _ ?_); done))
local macro_rules | `(tactic| walk_at "CompRest") => `(tactic| (with_unfolding_all (refine LCg.CompRest.succ ?_; intro v' I' oI' C' oC' D' m' h' tk' E' hv' hC' hx' F' N' off' ne'; (first | lcg_open hv' | (obtain ⟨t9', hv9'⟩ := hv'; subst hv9')); (have off2' := off'); (try simp only [LCg.Off3, and_true] at off2'))))
local macro_rules | `(tactic| walk_at "CompEnd") => `(tactic| ((rename News _ _ _ _ => nE'); refine LCg.CompEnd.intro (by assumption) nE' _ (by first | exact fun p hp => hp | exact fun p hp => List.mem_cons_of_mem _ hp) (by assumption) (by lcg_src) ?_))
local macro_rules | `(tactic| walk_at "call ref") => `(tactic| (k_here; (with_reducible show wpAny _ _ (call (Value.ref 21) _ _) _ _ _); k_dflt (refine' quality_scale_spec _ _ _ _ _ _ _ _ _ _ _ _ _ _ _ _ _ _ _ _ _ _ _ ?kB ?kF ?kX ?kN ?kT ?kd ?ku ?kR; (case kB => k_asm); (case kF => k_asm); (case kX => k_asm); (case kN => k_asm); (case kT => k_asm); (case kd => ktr_room); (case ku => ktr_units); intro t9 h9 tk9 F9 N9; (try dsimp only); (try k_fold))))
local macro_rules | `(tactic| walk_at "call ref") => `(tactic| (k_here; (with_reducible show wpAny _ _ (call (Value.ref 26) _ _) _ _ _); k_dflt (refine scaled_by_spec _ _ _ _ _ _ _ _ _ _ _ _ _ _ _ _ _ _ _ _ _ _ _ _ _ _ _ _ _ _ _ (by k_asm) (by k_asm) (by k_asm) (by k_asm) (by k_asm) (by ktr_room) (by ktr_units) ⟨by k_mem, by first | assumption | omega, by first | assumption | omega, by first | assumption | exact scale_bounds _ | omega, by first | assumption | omega, ?_⟩; k_whole; intro r9 a9 b9 c9 h9 tk9 F9 N9 l9; (try dsimp only); (try k_fold))))

theorem scaled_table_spec {w : World} {p : Program} {loose : List Str} {mean : ExcName → Option Value} {mg mb : Str → Option Value} (tp : Addr) (x y q mo : Int) (tx ty t1 t2 : Tok) (c : Nat) :
    Spot w p loose mean mg mb 4 (fun news h₀ L m s Q => (tp, tup2 x y tx ty c) ∈ news ∧ Okd x ∧ Okd y ∧ Okd mo ∧ RetTup news h₀ L m s Q (capOf x (scaleOf q) mo) (capOf y (scaleOf q) mo)) 33 [.ref tp, .int q t1, .int mo t2] := by
  unfold Spot; k_fill
  intro dp un gd cn kn g1 g2 mo' a ccd cl outer A₀ base h₀ L m news s Q E B F X N T hdp hun ⟨hT, hx, hy, hmo, hret⟩
  refine wpAny_call ?_
  k_dflt k_enter
  k_steps
  exact hret _ _ _ _ _ _ (by assumption) (by assumption) (by assumption)
end Mine
/- C4 -/
namespace Mine
local macro_rules | `(tactic| walk_at "pad0") => `(tactic| fail)
open PyProof.Rows.LCg
local macro_rules | `(tactic| k_room) => `(tactic| ktr_room)
local macro_rules | `(tactic| walk_at "eval ListComp") => `(tactic| (k_here; (first | (with_reducible show wpAny _ _ (eval (Expr.ListComp _ [⟨_, Expr.Name (Str.ofString "qtable") _, _, _⟩] _ _) _) _ _ _) | (with_reducible show wpAny _ _ (eval (Expr.ListComp _ [⟨_, Expr.Name (Str.ofString "base") _, _, _⟩] _ _) _) _ _ _)); k_dflt (refine ListComp_Tup (F₀ := by k_asm) (by with_unfolding_all rfl) (by decide) (by rfl) (by decide) (by rfl) ?_)))
local macro_rules | `(tactic| walk_at "CompSrcTp") => `(tactic| (k_here; k_dflt (refine CompSrcTp.intro (by rfl) (by k_asm) (by k_asm) (by k_mem) (by first | size_fits | exact Nat.le_of_ble_eq_true rfl) ?_; intro g'; lcg_lit)))
local macro_rules | `(tactic| lcg_src) => `(tactic| exact ⟨_, by k_mem, rfl, _, rfl⟩)
local macro_rules | `(tactic| k_mem) => `(tactic| ((repeat' first | exact List.mem_cons_self | assumption | refine List.mem_cons_of_mem _ ?_); done))
local macro_rules | `(tactic| walk_at "CompRest") => `(tactic| (with_unfolding_all (refine LCg.CompRest.succ ?_; intro v' I' oI' C' oC' D' m' h' tk' E' hv' hC' hx' F' N' off' ne'; (first | lcg_open hv' | (obtain ⟨t9', hv9'⟩ := hv'; subst hv9')); (have off2' := off'); (try simp only [LCg.Off3, and_true] at off2'))))
local macro_rules | `(tactic| walk_at "CompEnd") => `(tactic| ((rename News _ _ _ _ => nE'); refine LCg.CompEnd.intro (by assumption) nE' _ (by first | exact fun p hp => hp | exact fun p hp => List.mem_cons_of_mem _ hp) (by assumption) (by lcg_src) ?_))
local macro_rules | `(tactic| k_all) => `(tactic| first | exact allLt_ne (by assumption) (by omega) | exact allLt_ne' (by assumption) (by omega))
local macro_rules | `(tactic| walk_at "call ref") => `(tactic| (k_here; (with_reducible show wpAny _ _ (call (Value.ref 21) _ _) _ _ _); k_dflt (refine' quality_scale_spec _ _ _ _ _ _ _ _ _ _ _ _ _ _ _ _ _ _ _ _ _ _ _ ?kB ?kF ?kX ?kN ?kT ?kd ?ku ?kR; (case kB => k_asm); (case kF => k_asm); (case kX => k_asm); (case kN => k_asm); (case kT => k_asm); (case kd => ktr_room); (case ku => ktr_units); intro t9 h9 tk9 F9 N9; (try dsimp only); (try k_fold))))
local macro_rules | `(tactic| walk_at "call ref") => `(tactic| (k_here; (with_reducible show wpAny _ _ (call (Value.ref 26) _ _) _ _ _); k_dflt (refine scaled_by_spec _ _ _ _ _ _ _ _ _ _ _ _ _ _ _ _ _ _ _ _ _ _ _ _ _ _ _ _ _ _ _ (by k_asm) (by k_asm) (by k_asm) (by k_asm) (by k_asm) (by ktr_room) (by ktr_units) ⟨by k_mem, by first | assumption | omega, by first | assumption | omega, by first | assumption | exact scale_bounds _ | omega, by first | assumption | omega, ?_⟩; k_whole; intro r9 a9 b9 c9 h9 tk9 F9 N9 l9; (try dsimp only); (try k_fold))))

def tabOf (x hu mo : Int) : Int := if (if (x * hu + 50).fdiv 100 > 1 then (x * hu + 50).fdiv 100 else 1) < mo then (if (x * hu + 50).fdiv 100 > 1 then (x * hu + 50).fdiv 100 else 1) else mo
theorem tab_cap (x hu mo : Int) (h : Okd mo) : tabOf x hu mo = capOf x hu mo := by
  unfold tabOf capOf
  generalize (x * hu + 50).fdiv 100 = e
  obtain ⟨h1, _⟩ := h
  (repeat' split) <;> omega
theorem tab_lo (x q mo : Int) (h : Okd mo) (hq : 1 ≤ q ∧ q ≤ 100) (hl : q < 50) : tabOf x (Int.fdiv 5000 q) mo = capOf x (scaleOf q) mo := by
  rw [tab_cap _ _ _ h]
  have e : max 1 (min 100 q) = q := by omega
  unfold scaleOf
  rw [e, if_pos hl]
theorem tab_hi (x q mo : Int) (h : Okd mo) (hq : 1 ≤ q ∧ q ≤ 100) (hl : ¬ q < 50) : tabOf x (200 - q - q) mo = capOf x (scaleOf q) mo := by
  rw [tab_cap _ _ _ h]
  have e : max 1 (min 100 q) = q := by omega
  unfold scaleOf
  rw [e, if_neg hl]
  congr 1
  omega
theorem ret_tup {news : List (Addr × Obj)} {h₀ : Heap} {L : Addr} {m : Str → Option Value} {s : Shared} {Q : Value → Shared → Prop} {u v u' v' : Int} {r : Addr} {a b : Tok} {t : Nat} {h' : Heap} {tk' : Nat}
    (hret : RetTup news h₀ L m s Q u v) (e1 : u' = u) (e2 : v' = v) (F : Fr h₀ L h' m) (N : News h₀ L h' ((r, tup2 u' v' a b t) :: news)) (l : AllLt r news) : Q (.ref r) { s with heap := h', toks := tk' } := by
  subst e1; subst e2; exact hret _ _ _ _ _ _ F N l

theorem law_table_spec {w : World} {p : Program} {loose : List Str} {mean : ExcName → Option Value} {mg mb : Str → Option Value} (tp : Addr) (x y q mo : Int) (tx ty t1 t2 : Tok) (c : Nat) :
    Spot w p loose mean mg mb 4 (fun news h₀ L m s Q => (tp, tup2 x y tx ty c) ∈ news ∧ Okd x ∧ Okd y ∧ Okd mo ∧ (1 ≤ q ∧ q ≤ 100) ∧ RetTup news h₀ L m s Q (capOf x (scaleOf q) mo) (capOf y (scaleOf q) mo)) 71 [.ref tp, .int q t1, .int mo t2] := by
  unfold Spot; k_fill
  intro dp un gd cn kn g1 g2 mo' a ccd cl outer A₀ base h₀ L m news s Q E B F X N T hdp hun ⟨hT, hx, hy, hmo, hq, hret⟩
  refine wpAny_call ?_
  k_dflt k_enter
  k_steps
  case' _ =>
    rename q < 50 => hl
    rename (_ ∧ _ ∧ _ ∧ AllLt _ news) => hlt
    exact ret_tup hret (tab_lo x q mo hmo hq hl) (tab_lo y q mo hmo hq hl) (by assumption) (cb_drop (by assumption) (List.forall_mem_cons.mpr ⟨List.mem_cons_self, fun p hp => by simp [hp]⟩)) hlt.2.2.2
  case' _ =>
    rename ¬ q < 50 => hl
    rename (_ ∧ _ ∧ _ ∧ AllLt _ news) => hlt
    exact ret_tup hret (tab_hi x q mo hmo hq hl) (tab_hi y q mo hmo hq hl) (by assumption) (cb_drop (by assumption) (List.forall_mem_cons.mpr ⟨List.mem_cons_self, fun p hp => by simp [hp]⟩)) hlt.2.2.2
end Mine
/- C5 -/
namespace Mine
local macro_rules | `(tactic| walk_at "pad0") => `(tactic| fail)
open PyProof.Rows.LCg
local macro_rules | `(tactic| k_room) => `(tactic| ktr_room)
local macro_rules | `(tactic| walk_at "eval ListComp") => `(tactic| (k_here; (first | (with_reducible show wpAny _ _ (eval (Expr.ListComp _ [⟨_, Expr.Name (Str.ofString "qtable") _, _, _⟩] _ _) _) _ _ _) | (with_reducible show wpAny _ _ (eval (Expr.ListComp _ [⟨_, Expr.Name (Str.ofString "base") _, _, _⟩] _ _) _) _ _ _)); k_dflt (refine ListComp_Tup (F₀ := by k_asm) (by with_unfolding_all rfl) (by decide) (by rfl) (by decide) (by rfl) ?_)))
local macro_rules | `(tactic| walk_at "CompSrcTp") => `(tactic| (k_here; k_dflt (refine CompSrcTp.intro (by rfl) (by k_asm) (by k_asm) (by k_mem) (by first | size_fits | exact Nat.le_of_ble_eq_true rfl) ?_; intro g'; lcg_lit)))
local macro_rules | `(tactic| lcg_src) => `(tactic| exact ⟨_, by k_mem, rfl, _, rfl⟩)
local macro_rules | `(tactic| k_mem) => `(tactic| ((repeat' first | exact List.mem_cons_self | assumption | refine List.mem_cons_of_mem _ ?_); done))
local macro_rules | `(tactic| walk_at "CompRest") => `(tactic| (with_unfolding_all (refine LCg.CompRest.succ ?_; intro v' I' oI' C' oC' D' m' h' tk' E' hv' hC' hx' F' N' off' ne'; (first | lcg_open hv' | (obtain ⟨t9', hv9'⟩ := hv'; subst hv9')); (have off2' := off'); (try simp only [LCg.Off3, and_true] at off2'))))
local macro_rules | `(tactic| walk_at "CompEnd") => `(tactic| ((rename News _ _ _ _ => nE'); refine LCg.CompEnd.intro (by assumption) nE' _ (by first | exact fun p hp => hp | exact fun p hp => List.mem_cons_of_mem _ hp) (by assumption) (by lcg_src) ?_))
local macro_rules | `(tactic| k_all) => `(tactic| first | exact allLt_ne (by assumption) (by omega) | exact allLt_ne' (by assumption) (by omega))
local macro_rules | `(tactic| walk_at "CompSrc") => `(tactic| (k_here; k_dflt (refine LCg.CompSrc.range (by rfl) (by k_asm) (by k_asm) (by assumption) (by first | decide | rfl) (by first | rfl | decide) (by first | size_fits | exact Nat.le_of_ble_eq_true rfl) ?_; intro g'; lcg_lit)))
local macro_rules | `(tactic| walk_at "call ref") => `(tactic| (k_here; (with_reducible show wpAny _ _ (call (Value.ref 21) _ _) _ _ _); k_dflt (refine' quality_scale_spec _ _ _ _ _ _ _ _ _ _ _ _ _ _ _ _ _ _ _ _ _ _ _ ?kB ?kF ?kX ?kN ?kT ?kd ?ku ?kR; (case kB => k_asm); (case kF => k_asm); (case kX => k_asm); (case kN => k_asm); (case kT => k_asm); (case kd => ktr_room); (case ku => ktr_units); intro t9 h9 tk9 F9 N9; (try dsimp only); (try k_fold))))
local macro_rules | `(tactic| walk_at "call ref") => `(tactic| (k_here; (with_reducible show wpAny _ _ (call (Value.ref 26) _ _) _ _ _); k_dflt (refine scaled_by_spec _ _ _ _ _ _ _ _ _ _ _ _ _ _ _ _ _ _ _ _ _ _ _ _ _ _ _ _ _ _ _ (by k_asm) (by k_asm) (by k_asm) (by k_asm) (by k_asm) (by ktr_room) (by ktr_units) ⟨by k_mem, by first | assumption | omega, by first | assumption | omega, by first | assumption | exact scale_bounds _ | omega, by first | assumption | omega, ?_⟩; k_whole; intro r9 a9 b9 c9 h9 tk9 F9 N9 l9; (try dsimp only); (try k_fold))))

theorem distance_spec {w : World} {p : Program} {loose : List Str} {mean : ExcName → Option Value} {mg mb : Str → Option Value} (t1 t2 : Addr) (x y u v : Int) (tx ty tu tv : Tok) (c d : Nat) :
    Spot w p loose mean mg mb 3 (fun news h₀ L m s Q => (t1, tup2 x y tx ty c) ∈ news ∧ (t2, tup2 u v tu tv d) ∈ news ∧ RetInt news h₀ L m s Q (((x - u).natAbs : Int) + (y - v).natAbs)) 45 [.ref t1, .ref t2] := by
  unfold Spot; k_fill
  intro dp un gd cn kn g1 g2 mo' a ccd cl outer A₀ base h₀ L m news s Q E B F X N T hdp hun ⟨hT, hT2, hret⟩
  refine wpAny_call ?_
  k_dflt k_enter
  k_steps
  exact cb_retI hret (by (repeat' split) <;> omega) (by k_asm) (cb_drop (by assumption) (fun p hp => by simp [hp]))
end Mine
/- C6 -/
namespace Mine
open PyProof.Rows.LCg
local macro_rules | `(tactic| k_room) => `(tactic| ktr_room)
local macro_rules | `(tactic| walk_at "eval ListComp") => `(tactic| (k_here; (first | (with_reducible show wpAny _ _ (eval (Expr.ListComp _ [⟨_, Expr.Name (Str.ofString "qtable") _, _, _⟩] _ _) _) _ _ _) | (with_reducible show wpAny _ _ (eval (Expr.ListComp _ [⟨_, Expr.Name (Str.ofString "base") _, _, _⟩] _ _) _) _ _ _)); k_dflt (refine ListComp_Tup (F₀ := by k_asm) (by with_unfolding_all rfl) (by decide) (by rfl) (by decide) (by rfl) ?_)))
local macro_rules | `(tactic| walk_at "CompSrcTp") => `(tactic| (k_here; k_dflt (refine CompSrcTp.intro (by rfl) (by k_asm) (by k_asm) (by k_mem) (by first | size_fits | exact Nat.le_of_ble_eq_true rfl) ?_; intro g'; lcg_lit)))
local macro_rules | `(tactic| lcg_src) => `(tactic| exact ⟨_, by k_mem, rfl, _, rfl⟩)
local macro_rules | `(tactic| k_mem) => `(tactic| ((repeat' first | exact List.mem_cons_self | assumption | exact updF_mem (by assumption) _ | exact List.mem_append_left _ (by assumption) | refine List.mem_cons_of_mem _ ?_); done))
local macro_rules | `(tactic| walk_at "CompRest") => `(tactic| (with_unfolding_all (refine LCg.CompRest.succ ?_; intro v' I' oI' C' oC' D' m' h' tk' E' hv' hC' hx' F' N' off' ne'; (first | lcg_open hv' | (obtain ⟨t9', hv9'⟩ := hv'; subst hv9')); (have off2' := off'); (try simp only [LCg.Off3, and_true] at off2'))))
local macro_rules | `(tactic| walk_at "CompEnd") => `(tactic| ((rename News _ _ _ _ => nE'); refine LCg.CompEnd.intro (by assumption) nE' _ (by first | exact fun p hp => hp | exact fun p hp => List.mem_cons_of_mem _ hp) (by assumption) (by lcg_src) ?_))
local macro_rules | `(tactic| k_all) => `(tactic| first | exact allLt_ne (by assumption) (by omega) | exact allLt_ne' (by assumption) (by omega))
local macro_rules | `(tactic| walk_at "CompSrc") => `(tactic| (k_here; k_dflt (refine LCg.CompSrc.range (by rfl) (by k_asm) (by k_asm) (by assumption) (by first | decide | rfl) (by first | rfl | decide) (by first | size_fits | exact Nat.le_of_ble_eq_true rfl) ?_; intro g'; lcg_lit)))
local macro_rules | `(tactic| k_upd) => `(tactic| first | exact updF_upd0 (by assumption) _ | exact updF_upd (by assumption) _ _)
local macro_rules | `(tactic| is_list) => `(tactic| exact News.isList (by k_asm) (by k_mem))
local macro_rules | `(tactic| walk_at "call type:tuple") => `(tactic| (k_here; (with_reducible show wpAny _ _ (call (Value.type "tuple") [Value.ref _]) _ _ _); k_dflt (refine call_tuple_same (News.isTup (by k_asm) (by k_mem)) ?_)))
local macro_rules | `(tactic| walk_at "compareOp Eq ref ref") => `(tactic| (k_here; (with_reducible show wpAny _ _ (compareOp CmpOp.Eq (Value.ref _) (Value.ref _)) _ _ _); k_dflt (refine eq_tup2 (by k_asm) (by k_mem) (by k_mem) (by ktr_units) ?_)))
local macro_rules | `(tactic| walk_at "compareOp NotEq ref ref") => `(tactic| (k_here; (with_reducible show wpAny _ _ (compareOp CmpOp.NotEq (Value.ref _) (Value.ref _)) _ _ _); k_dflt (refine ne_tup2 (by k_asm) (by k_mem) (by k_mem) (by ktr_units) ?_)))
local macro_rules | `(tactic| walk_at "pyIter ref") => `(tactic| (k_here; (with_reducible show wpAny _ _ (pyIter (Value.ref _)) (fun it s₂ => PyProof.Rows.LoopAtV _ _ _ _ _ _ _ _ _ it s₂) _ _); refine Halt.of ?_))
local macro_rules | `(tactic| walk_at "eval ListComp") => `(tactic| (k_here; (with_reducible show wpAny _ _ (eval (Expr.ListComp _ [⟨Expr.Tuple _ _ _, _, _, _⟩] _ _) _) _ _ _); k_dflt (refine ListComp_Zip (by k_asm) (by with_unfolding_all rfl) (by decide) (by rfl) (by decide) (by rfl) (by rfl) (by decide) ?_)))
local macro_rules | `(tactic| walk_at "call type:zip") => `(tactic| (k_here; refine Halt.of ?_))
local macro_rules | `(tactic| walk_at "call ref") => `(tactic| (k_here; (with_reducible show wpAny _ _ (call (Value.ref 21) _ _) _ _ _); k_dflt (refine' quality_scale_spec _ _ _ _ _ _ _ _ _ _ _ _ _ _ _ _ _ _ _ _ _ _ _ ?kB ?kF ?kX ?kN ?kT ?kd ?ku ?kR; (case kB => k_asm); (case kF => k_asm); (case kX => k_asm); (case kN => k_asm); (case kT => k_asm); (case kd => ktr_room); (case ku => ktr_units); intro t9 h9 tk9 F9 N9; (try dsimp only); (try k_fold))))
local macro_rules | `(tactic| walk_at "call ref") => `(tactic| (k_here; (with_reducible show wpAny _ _ (call (Value.ref 26) _ _) _ _ _); k_dflt (refine scaled_by_spec _ _ _ _ _ _ _ _ _ _ _ _ _ _ _ _ _ _ _ _ _ _ _ _ _ _ _ _ _ _ _ (by k_asm) (by k_asm) (by k_asm) (by k_asm) (by k_asm) (by ktr_room) (by ktr_units) ⟨by k_mem, by first | assumption | omega, by first | assumption | omega, by first | assumption | exact scale_bounds _ | omega, by first | assumption | omega, ?_⟩; k_whole; intro r9 a9 b9 c9 h9 tk9 F9 N9 l9; (try dsimp only); (try k_fold))))
local macro_rules | `(tactic| walk_at "call ref") => `(tactic| (k_here; (with_reducible show wpAny _ _ (call (Value.ref 33) _ _) _ _ _); k_dflt (refine scaled_table_spec _ _ _ _ _ _ _ _ _ _ _ _ _ _ _ _ _ _ _ _ _ _ _ _ _ _ _ _ _ _ _ (by k_asm) (by k_asm) (by k_asm) (by k_asm) (by k_asm) (by ktr_room) (by ktr_units) ⟨by k_mem, by first | assumption | omega, by first | assumption | omega, by first | assumption | omega, ?_⟩; k_whole; intro r9 a9 b9 c9 h9 tk9 F9 N9 l9; (try dsimp only); (try k_fold))))
local macro_rules | `(tactic| walk_at "call ref") => `(tactic| (k_here; (with_reducible show wpAny _ _ (call (Value.ref 71) _ _) _ _ _); k_dflt (refine law_table_spec _ _ _ _ _ _ _ _ _ _ _ _ _ _ _ _ _ _ _ _ _ _ _ _ _ _ _ _ _ _ _ (by k_asm) (by k_asm) (by k_asm) (by k_asm) (by k_asm) (by ktr_room) (by ktr_units) ⟨by k_mem, by first | assumption | omega, by first | assumption | omega, by first | assumption | omega, by first | assumption | omega, ?_⟩; k_whole; intro r9 a9 b9 c9 h9 tk9 F9 N9 l9; (try dsimp only); (try k_fold))))
local macro_rules | `(tactic| walk_at "call ref") => `(tactic| (k_here; (with_reducible show wpAny _ _ (call (Value.ref 45) _ _) _ _ _); k_dflt (refine distance_spec _ _ _ _ _ _ _ _ _ _ _ _ _ _ _ _ _ _ _ _ _ _ _ _ _ _ _ _ _ _ _ _ _ (by k_asm) (by k_asm) (by k_asm) (by k_asm) (by k_asm) (by ktr_room) (by ktr_units) ⟨by k_mem, by k_mem, ?_⟩; k_whole; intro t9 h9 tk9 F9 N9; (try dsimp only); (try k_fold))))

/-- what the gaps' list holds after so many turns -/
def GapRel (d e : Int) (i : Nat) (zs : List Value) : Prop := (i = 0 ∧ zs = []) ∨ (i = 1 ∧ ∃ t, zs = [.int d t]) ∨ (i = 2 ∧ ∃ t t', zs = [.int d t, .int e t'])

theorem gap_val (x u : Int) : ((if u > x then u else x) - if u < x then u else x) = ((x - u).natAbs : Int) := by (repeat' split) <;> omega
theorem gap_one (x u : Int) (tk : Tok) : ∃ t, [] ++ [Value.int ((if u > x then u else x) - if u < x then u else x) tk] = [Value.int ((x - u).natAbs : Int) t] := ⟨tk, by rw [gap_val]; rfl⟩
theorem gap_two (d y v : Int) (t tk : Tok) : ∃ t₁ t₂, [Value.int d t] ++ [Value.int ((if v > y then v else y) - if v < y then v else y) tk] = [Value.int d t₁, Value.int ((y - v).natAbs : Int) t₂] := ⟨t, tk, by rw [gap_val]; rfl⟩

theorem law_gap_spec {w : World} {p : Program} {loose : List Str} {mean : ExcName → Option Value} {mg mb : Str → Option Value} (t1 t2 : Addr) (x y u v : Int) (tx ty tu tv : Tok) (c d : Nat) :
    Spot w p loose mean mg mb 3 (fun news h₀ L m s Q => (t1, tup2 x y tx ty c) ∈ news ∧ (t2, tup2 u v tu tv d) ∈ news ∧ RetInt news h₀ L m s Q (((x - u).natAbs : Int) + (y - v).natAbs)) 76 [.ref t1, .ref t2] := by
  unfold Spot; k_fill
  intro dp un gd cn kn g1 g2 mo' a ccd cl outer A₀ base h₀ L m news s Q E B F X N T hdp hun ⟨hT, hT2, hret⟩
  refine wpAny_call ?_
  k_dflt k_enter
  k_steps
  unfold Halt
  rename Fr _ _ _ _ => lF'
  rename News _ _ _ _ => lN'
  k_dflt (refine SrcZip.call (GapRel ((x - u).natAbs : Int) ((y - v).natAbs : Int)) (by rfl) lF' lN' (by k_mem) (by k_mem) (by rfl) (by exact Nat.le_of_ble_eq_true rfl) (.inl ⟨rfl, rfl⟩) ?_ ?_)
  · intro i x' y' C oC m₂ h tk zs own E' hx hy hoC ha hc kF kN hR
    rcases hR with ⟨rfl, rfl⟩ | ⟨rfl, t, rfl⟩ | ⟨rfl, _⟩
    · obtain rfl : Value.int x tx = x' := Option.some.inj hx
      obtain rfl : Value.int u tu = y' := Option.some.inj hy
      clear lF' lN'
      k_steps
      exact ⟨_, _, rfl, by assumption, by assumption, .inr (.inl ⟨rfl, gap_one _ _ _⟩)⟩
    · obtain rfl : Value.int y ty = x' := Option.some.inj hx
      obtain rfl : Value.int v tv = y' := Option.some.inj hy
      clear lF' lN'
      k_steps
      exact ⟨_, _, rfl, by assumption, by assumption, .inr (.inr ⟨rfl, gap_two _ _ _ _ _⟩)⟩
    · exact absurd hx (by simp)
  · intro D h tk zs kF kN hD hR
    rcases hR with ⟨h9, _⟩ | ⟨h9, _⟩ | ⟨_, t, t', rfl⟩
    · exact absurd h9 (by simp)
    · exact absurd h9 (by simp)
    · clear lF' lN'
      try k_fold
      k_steps
      exact cb_retI hret (by omega) (by k_asm) (cb_drop (by assumption) (fun p hp => by simp [hp]))
end Mine
/- C7 -/
namespace Mine
local macro_rules | `(tactic| walk_at "pad0") => `(tactic| fail)
local macro_rules | `(tactic| walk_at "pad1") => `(tactic| fail)
open PyProof.Rows.LCg
local macro_rules | `(tactic| k_room) => `(tactic| ktr_room)
local macro_rules | `(tactic| walk_at "eval ListComp") => `(tactic| (k_here; (first | (with_reducible show wpAny _ _ (eval (Expr.ListComp _ [⟨_, Expr.Name (Str.ofString "qtable") _, _, _⟩] _ _) _) _ _ _) | (with_reducible show wpAny _ _ (eval (Expr.ListComp _ [⟨_, Expr.Name (Str.ofString "base") _, _, _⟩] _ _) _) _ _ _)); k_dflt (refine ListComp_Tup (F₀ := by k_asm) (by with_unfolding_all rfl) (by decide) (by rfl) (by decide) (by rfl) ?_)))
local macro_rules | `(tactic| walk_at "CompSrcTp") => `(tactic| (k_here; k_dflt (refine CompSrcTp.intro (by rfl) (by k_asm) (by k_asm) (by k_mem) (by first | size_fits | exact Nat.le_of_ble_eq_true rfl) ?_; intro g'; lcg_lit)))
local macro_rules | `(tactic| lcg_src) => `(tactic| exact ⟨_, by k_mem, rfl, _, rfl⟩)
local macro_rules | `(tactic| k_mem) => `(tactic| ((repeat' first | exact List.mem_cons_self | assumption | exact updF_mem (by assumption) _ | refine List.mem_cons_of_mem _ ?_); done))
local macro_rules | `(tactic| walk_at "CompRest") => `(tactic| (with_unfolding_all (refine LCg.CompRest.succ ?_; intro v' I' oI' C' oC' D' m' h' tk' E' hv' hC' hx' F' N' off' ne'; (first | lcg_open hv' | (obtain ⟨t9', hv9'⟩ := hv'; subst hv9')); (have off2' := off'); (try simp only [LCg.Off3, and_true] at off2'))))
local macro_rules | `(tactic| walk_at "CompEnd") => `(tactic| ((rename News _ _ _ _ => nE'); refine LCg.CompEnd.intro (by assumption) nE' _ (by first | exact fun p hp => hp | exact fun p hp => List.mem_cons_of_mem _ hp) (by assumption) (by lcg_src) ?_))
local macro_rules | `(tactic| k_all) => `(tactic| first | exact allLt_ne (by assumption) (by omega) | exact allLt_ne' (by assumption) (by omega))
local macro_rules | `(tactic| walk_at "CompSrc") => `(tactic| (k_here; k_dflt (refine LCg.CompSrc.range (by rfl) (by k_asm) (by k_asm) (by assumption) (by first | decide | rfl) (by first | rfl | decide) (by first | size_fits | exact Nat.le_of_ble_eq_true rfl) ?_; intro g'; lcg_lit)))
local macro_rules | `(tactic| k_upd) => `(tactic| first | exact updF_upd0 (by assumption) _ | exact updF_upd (by assumption) _ _)
local macro_rules | `(tactic| is_list) => `(tactic| exact News.isList (by k_asm) (by k_mem))
local macro_rules | `(tactic| walk_at "call ref") => `(tactic| (k_here; (with_reducible show wpAny _ _ (call (Value.ref 21) _ _) _ _ _); k_dflt (refine' quality_scale_spec _ _ _ _ _ _ _ _ _ _ _ _ _ _ _ _ _ _ _ _ _ _ _ ?kB ?kF ?kX ?kN ?kT ?kd ?ku ?kR; (case kB => k_asm); (case kF => k_asm); (case kX => k_asm); (case kN => k_asm); (case kT => k_asm); (case kd => ktr_room); (case ku => ktr_units); intro t9 h9 tk9 F9 N9; (try dsimp only); (try k_fold))))
local macro_rules | `(tactic| walk_at "call ref") => `(tactic| (k_here; (with_reducible show wpAny _ _ (call (Value.ref 26) _ _) _ _ _); k_dflt (refine scaled_by_spec _ _ _ _ _ _ _ _ _ _ _ _ _ _ _ _ _ _ _ _ _ _ _ _ _ _ _ _ _ _ _ (by k_asm) (by k_asm) (by k_asm) (by k_asm) (by k_asm) (by ktr_room) (by ktr_units) ⟨by k_mem, by first | assumption | omega, by first | assumption | omega, by first | assumption | exact scale_bounds _ | omega, by first | assumption | omega, ?_⟩; k_whole; intro r9 a9 b9 c9 h9 tk9 F9 N9 l9; (try dsimp only); (try k_fold))))

abbrev src2 (x y : Int) (tx ty : Tok) (c : Nat) : Obj := { cls := .type "list", data := .seq #[.int x tx, .int y ty] c }
/-- the two seeds -/
abbrev Oks (x y : Int) : Prop := 0 ≤ x ∧ 0 ≤ y ∧ y < 2147483647
theorem fmod_in (z : Int) {k : Int} (hk : 0 < k) : 0 ≤ z.fmod k ∧ z.fmod k < k := by
  rw [Int.fmod_eq_emod_of_nonneg _ (by omega)]
  exact ⟨Int.emod_nonneg _ (by omega), Int.emod_lt_of_pos _ hk⟩
theorem seed_bits (x z : Int) : Builtin.Int.intBits ([x, z.fmod 2147483647].getD (Int.toNat 1) 0) ≤ 64 := by
  have h := fmod_in z (show (0 : Int) < 2147483647 by decide)
  show Builtin.Int.intBits (z.fmod 2147483647) ≤ 64
  exact intBits_le_64 (by omega) (by omega)
local macro_rules | `(tactic| mul_fits) => `(tactic| exact IntMulOk.of_left (seed_bits _ _))

theorem item_menu {prog : Program} {w : World} {A : Around} {E : Value → Shared → Prop} {s : Shared} {value slice : PySem.Expr} {l : Addr} {vs : List Value} {k : Int} {u : Tok} {Q : Value → Shared → Prop}
    (hl : s.heap.IsList l vs.toArray) (h0 : 0 ≤ k) (h1 : k < (vs.length : Int)) (h2 : vs.length ≤ 64) (hv : ∀ v ∈ vs, ∃ i t, v = Value.int i t ∧ (1 ≤ i ∧ i ≤ 65535))
    (h : ∀ i t, (1 ≤ i ∧ i ≤ 65535) → Q (.int i t) s)
    (hs : subscripted slice false (.ref l) (.int k u) = operate [.ref l, .int k u] (getItem (.ref l) (.int k u)) := by with_unfolding_all rfl) :
    wpAny (model prog w) A (subscriptTail value slice (.ref l) (.int k u)) Q E s := by
  have hk : k.toNat < vs.length := by omega
  obtain ⟨i, t, e, hi⟩ := hv _ (List.getElem_mem hk)
  have hx : vs[k.toNat]? = some (Value.int i t) := by rw [List.getElem?_eq_getElem hk, e]
  exact tail_any hl.typeIs slot_list_getitem.lookup (wpAny_getItem_list hl h0 (by omega) (by simpa using hx) (h i t hi)) hs

theorem law_take_spec {w : World} {p : Program} {loose : List Str} {mean : ExcName → Option Value} {mg mb : Str → Option Value} (sp : Addr) (x y top : Int) (tx ty t1 : Tok) (c : Nat) (g : Obj → List (Addr × Obj)) :
    Spot w p loose mean mg mb 2 (fun news h₀ L m s Q => UpdF sp (src2 x y tx ty c) news g ∧ Oks x y ∧ (1 ≤ top ∧ top ≤ 65535) ∧
      ∀ (d x' y' : Int) (td tx' ty' : Tok) (c' : Nat) (h' : Heap) (tk' : Nat), 0 ≤ d → d < top → Oks x' y' → Fr h₀ L h' m → News h₀ L h' (g (src2 x' y' tx' ty' c')) → Q (.int d td) { s with heap := h', toks := tk' }) 66 [.ref sp, .int top t1] := by
  unfold Spot; k_fill
  intro dp un gd cn kn g1 g2 mo' a ccd cl outer A₀ base h₀ L m news s Q E B F X N T hdp hun ⟨U, hxy, htop, hret⟩
  have hm0 := updF_mem0 U
  refine wpAny_call ?_
  k_dflt k_enter
  k_steps
  case' _ =>
    have hd := fmod_in x (show 0 < top by omega)
    have hq : 0 ≤ x.fdiv top := by rw [Int.fdiv_eq_ediv_of_nonneg _ (by omega)]; exact Int.ediv_nonneg hxy.1 (by omega)
    exact hret (x.fmod top) (x.fdiv top) y _ _ _ _ _ _ hd.1 hd.2 ⟨hq, hxy.2⟩ (by assumption) (by assumption)
  case' _ =>
    have hd := fmod_in ((((y * 39373 + 7).fmod 2147483647 * (y * 39373 + 7).fmod 2147483647).fmod 2147483629).fdiv 32) (show 0 < top by omega)
    exact hret _ x ((y * 39373 + 7).fmod 2147483647) _ _ _ _ _ _ hd.1 hd.2 ⟨hxy.1, fmod_in _ (by decide)⟩ (by assumption) (by assumption)
end Mine
/- C8 -/
namespace Mine
local macro_rules | `(tactic| walk_at "pad0") => `(tactic| fail)
local macro_rules | `(tactic| walk_at "pad1") => `(tactic| fail)
local macro_rules | `(tactic| walk_at "pad2") => `(tactic| fail)
open PyProof.Rows.LCg
local macro_rules | `(tactic| k_room) => `(tactic| ktr_room)
local macro_rules | `(tactic| walk_at "eval ListComp") => `(tactic| (k_here; (first | (with_reducible show wpAny _ _ (eval (Expr.ListComp _ [⟨_, Expr.Name (Str.ofString "qtable") _, _, _⟩] _ _) _) _ _ _) | (with_reducible show wpAny _ _ (eval (Expr.ListComp _ [⟨_, Expr.Name (Str.ofString "base") _, _, _⟩] _ _) _) _ _ _)); k_dflt (refine ListComp_Tup (F₀ := by k_asm) (by with_unfolding_all rfl) (by decide) (by rfl) (by decide) (by rfl) ?_)))
local macro_rules | `(tactic| walk_at "CompSrcTp") => `(tactic| (k_here; k_dflt (refine CompSrcTp.intro (by rfl) (by k_asm) (by k_asm) (by k_mem) (by first | size_fits | exact Nat.le_of_ble_eq_true rfl) ?_; intro g'; lcg_lit)))
local macro_rules | `(tactic| lcg_src) => `(tactic| exact ⟨_, by k_mem, rfl, _, rfl⟩)
local macro_rules | `(tactic| k_mem) => `(tactic| ((repeat' first | exact List.mem_cons_self | assumption | exact updF_mem (by assumption) _ | refine List.mem_cons_of_mem _ ?_); done))
local macro_rules | `(tactic| walk_at "CompRest") => `(tactic| (with_unfolding_all (refine LCg.CompRest.succ ?_; intro v' I' oI' C' oC' D' m' h' tk' E' hv' hC' hx' F' N' off' ne'; (first | lcg_open hv' | (obtain ⟨t9', hv9'⟩ := hv'; subst hv9')); (have off2' := off'); (try simp only [LCg.Off3, and_true] at off2'))))
local macro_rules | `(tactic| walk_at "CompEnd") => `(tactic| ((rename News _ _ _ _ => nE'); refine LCg.CompEnd.intro (by assumption) nE' _ (by first | exact fun p hp => hp | exact fun p hp => List.mem_cons_of_mem _ hp) (by assumption) (by lcg_src) ?_))
local macro_rules | `(tactic| k_all) => `(tactic| first | exact allLt_ne (by assumption) (by omega) | exact allLt_ne' (by assumption) (by omega))
local macro_rules | `(tactic| walk_at "CompSrc") => `(tactic| (k_here; k_dflt (refine LCg.CompSrc.range (by rfl) (by k_asm) (by k_asm) (by assumption) (by first | decide | rfl) (by first | rfl | decide) (by first | size_fits | exact Nat.le_of_ble_eq_true rfl) ?_; intro g'; lcg_lit)))
local macro_rules | `(tactic| k_upd) => `(tactic| first | exact updF_upd0 (by assumption) _ | exact updF_upd (by assumption) _ _)
local macro_rules | `(tactic| is_list) => `(tactic| exact News.isList (by k_asm) (by k_mem))
local macro_rules | `(tactic| walk_at "call ref") => `(tactic| (k_here; (with_reducible show wpAny _ _ (call (Value.ref 21) _ _) _ _ _); k_dflt (refine' quality_scale_spec _ _ _ _ _ _ _ _ _ _ _ _ _ _ _ _ _ _ _ _ _ _ _ ?kB ?kF ?kX ?kN ?kT ?kd ?ku ?kR; (case kB => k_asm); (case kF => k_asm); (case kX => k_asm); (case kN => k_asm); (case kT => k_asm); (case kd => ktr_room); (case ku => ktr_units); intro t9 h9 tk9 F9 N9; (try dsimp only); (try k_fold))))
local macro_rules | `(tactic| walk_at "call ref") => `(tactic| (k_here; (with_reducible show wpAny _ _ (call (Value.ref 26) _ _) _ _ _); k_dflt (refine scaled_by_spec _ _ _ _ _ _ _ _ _ _ _ _ _ _ _ _ _ _ _ _ _ _ _ _ _ _ _ _ _ _ _ (by k_asm) (by k_asm) (by k_asm) (by k_asm) (by k_asm) (by ktr_room) (by ktr_units) ⟨by k_mem, by first | assumption | omega, by first | assumption | omega, by first | assumption | exact scale_bounds _ | omega, by first | assumption | omega, ?_⟩; k_whole; intro r9 a9 b9 c9 h9 tk9 F9 N9 l9; (try dsimp only); (try k_fold))))

theorem law_pool_spec {w : World} {p : Program} {loose : List Str} {mean : ExcName → Option Value} {mg mb : Str → Option Value} (l : Addr) (vs : List Value) (ns : List Int) (t0 : Tok) :
  ∀ (dp un : Nat) (gd : Option (List Code)) (cn : Str) (kn : List (Str × NameKind)) (g1 g2 : Bool) (mo : List (Str × Const)) (a : Addr) (ccd : Value) (cl : List (Str × Addr)) (outer : List Env) (A₀ : Around) (base h₀ : Heap) (L : Addr) (m : Str → Option Value) (news : List (Addr × Obj)) (s : Shared) (Q E : Value → Shared → Prop),
    Below A₀ base outer h₀ → Fr h₀ L s.heap m → (hd.heap_39 w.params).In h₀ → News h₀ L s.heap news → Top p loose mean mg mb h₀ →
    dp + 2 < recursionLimit → un + 8 * 2 < cLine → base.IsList l vs.toArray → IntsAre vs ns → ns.length < 2 ^ 62 →
    (∀ (r : Addr) (x y : Int) (tx ty : Tok) (c : Nat) (h' : Heap) (tk' : Nat), Oks x y → Fr h₀ L h' m → News h₀ L h' ((r, src2 x y tx ty c) :: news) → AllLt r news → Q (.ref r) { s with heap := h', toks := tk' }) →
    wpAny (model PySem.Challenge.rw_nt0536_01.row.prog w) (ktrTop dp un gd cn { kind := .function, names := kn, isGenerator := g1, isCoroutine := g2, more := mo } L a ccd cl outer) (call (.ref 59) [.ref l, .int 0 t0]) Q E s := by
  k_fill
  intro dp un gd cn kn g1 g2 mo' a ccd cl outer A₀ base h₀ L m news s Q E B F X N T hdp hun hl hi hfit hret
  refine wpAny_call ?_
  k_dflt k_enter
  k_steps
  all_goals (
    refine hret _ _ _ _ _ _ _ _ ?_ (by assumption) (by assumption) (by first | assumption | exact allLt_of (by assumption))
    refine ⟨?_, fmod_in _ (by decide)⟩
    first | decide | ((repeat' split) <;> omega))
end Mine
/- C9 -/
namespace Mine
open PyProof.Rows.LCg
local macro_rules | `(tactic| k_room) => `(tactic| ktr_room)
local macro_rules | `(tactic| walk_at "eval ListComp") => `(tactic| (k_here; (first | (with_reducible show wpAny _ _ (eval (Expr.ListComp _ [⟨_, Expr.Name (Str.ofString "qtable") _, _, _⟩] _ _) _) _ _ _) | (with_reducible show wpAny _ _ (eval (Expr.ListComp _ [⟨_, Expr.Name (Str.ofString "base") _, _, _⟩] _ _) _) _ _ _)); k_dflt (refine ListComp_Tup (F₀ := by k_asm) (by with_unfolding_all rfl) (by decide) (by rfl) (by decide) (by rfl) ?_)))
local macro_rules | `(tactic| walk_at "CompSrcTp") => `(tactic| (k_here; k_dflt (refine CompSrcTp.intro (by rfl) (by k_asm) (by k_asm) (by k_mem) (by first | size_fits | exact Nat.le_of_ble_eq_true rfl) ?_; intro g'; lcg_lit)))
local macro_rules | `(tactic| lcg_src) => `(tactic| exact ⟨_, by k_mem, rfl, _, rfl⟩)
local macro_rules | `(tactic| k_mem) => `(tactic| ((repeat' first | exact List.mem_cons_self | assumption | exact updF_mem (by assumption) _ | exact List.mem_append_left _ (by assumption) | refine List.mem_cons_of_mem _ ?_); done))
local macro_rules | `(tactic| walk_at "CompRest") => `(tactic| (with_unfolding_all (refine LCg.CompRest.succ ?_; intro v' I' oI' C' oC' D' m' h' tk' E' hv' hC' hx' F' N' off' ne'; (first | lcg_open hv' | (obtain ⟨t9', hv9'⟩ := hv'; subst hv9')); (have off2' := off'); (try simp only [LCg.Off3, and_true] at off2'))))
local macro_rules | `(tactic| walk_at "CompEnd") => `(tactic| ((rename News _ _ _ _ => nE'); refine LCg.CompEnd.intro (by assumption) nE' _ (by first | exact fun p hp => hp | exact fun p hp => List.mem_cons_of_mem _ hp) (by assumption) (by lcg_src) ?_))
local macro_rules | `(tactic| k_all) => `(tactic| first | exact allLt_ne (by assumption) (by omega) | exact allLt_ne' (by assumption) (by omega))
local macro_rules | `(tactic| walk_at "CompSrc") => `(tactic| (k_here; k_dflt (refine LCg.CompSrc.range (by rfl) (by k_asm) (by k_asm) (by assumption) (by first | decide | rfl) (by first | rfl | decide) (by first | size_fits | exact Nat.le_of_ble_eq_true rfl) ?_; intro g'; lcg_lit)))
local macro_rules | `(tactic| k_upd) => `(tactic| first | exact updF_upd0 (by assumption) _ | exact updF_upd (by assumption) _ _)
local macro_rules | `(tactic| is_list) => `(tactic| exact News.isList (by k_asm) (by k_mem))
local macro_rules | `(tactic| walk_at "call type:tuple") => `(tactic| (k_here; (with_reducible show wpAny _ _ (call (Value.type "tuple") [Value.ref _]) _ _ _); k_dflt (refine call_tuple_same (News.isTup (by k_asm) (by k_mem)) ?_)))
local macro_rules | `(tactic| walk_at "compareOp Eq ref ref") => `(tactic| (k_here; (with_reducible show wpAny _ _ (compareOp CmpOp.Eq (Value.ref _) (Value.ref _)) _ _ _); k_dflt (refine eq_tup2 (by k_asm) (by k_mem) (by k_mem) (by ktr_units) ?_)))
local macro_rules | `(tactic| walk_at "compareOp NotEq ref ref") => `(tactic| (k_here; (with_reducible show wpAny _ _ (compareOp CmpOp.NotEq (Value.ref _) (Value.ref _)) _ _ _); k_dflt (refine ne_tup2 (by k_asm) (by k_mem) (by k_mem) (by ktr_units) ?_)))
local macro_rules | `(tactic| walk_at "call ref") => `(tactic| (k_here; (with_reducible show wpAny _ _ (call (Value.ref 21) _ _) _ _ _); k_dflt (refine' quality_scale_spec _ _ _ _ _ _ _ _ _ _ _ _ _ _ _ _ _ _ _ _ _ _ _ ?kB ?kF ?kX ?kN ?kT ?kd ?ku ?kR; (case kB => k_asm); (case kF => k_asm); (case kX => k_asm); (case kN => k_asm); (case kT => k_asm); (case kd => ktr_room); (case ku => ktr_units); intro t9 h9 tk9 F9 N9; (try dsimp only); (try k_fold))))
local macro_rules | `(tactic| walk_at "call ref") => `(tactic| (k_here; (with_reducible show wpAny _ _ (call (Value.ref 26) _ _) _ _ _); k_dflt (refine scaled_by_spec _ _ _ _ _ _ _ _ _ _ _ _ _ _ _ _ _ _ _ _ _ _ _ _ _ _ _ _ _ _ _ (by k_asm) (by k_asm) (by k_asm) (by k_asm) (by k_asm) (by ktr_room) (by ktr_units) ⟨by k_mem, by first | assumption | omega, by first | assumption | omega, by first | assumption | exact scale_bounds _ | omega, by first | assumption | omega, ?_⟩; k_whole; intro r9 a9 b9 c9 h9 tk9 F9 N9 l9; (try dsimp only); (try k_fold))))
local macro_rules | `(tactic| walk_at "call ref") => `(tactic| (k_here; (with_reducible show wpAny _ _ (call (Value.ref 33) _ _) _ _ _); k_dflt (refine scaled_table_spec _ _ _ _ _ _ _ _ _ _ _ _ _ _ _ _ _ _ _ _ _ _ _ _ _ _ _ _ _ _ _ (by k_asm) (by k_asm) (by k_asm) (by k_asm) (by k_asm) (by ktr_room) (by ktr_units) ⟨by k_mem, by first | assumption | omega, by first | assumption | omega, by first | assumption | omega, ?_⟩; k_whole; intro r9 a9 b9 c9 h9 tk9 F9 N9 l9; (try dsimp only); (try k_fold))))
local macro_rules | `(tactic| walk_at "call ref") => `(tactic| (k_here; (with_reducible show wpAny _ _ (call (Value.ref 71) _ _) _ _ _); k_dflt (refine law_table_spec _ _ _ _ _ _ _ _ _ _ _ _ _ _ _ _ _ _ _ _ _ _ _ _ _ _ _ _ _ _ _ (by k_asm) (by k_asm) (by k_asm) (by k_asm) (by k_asm) (by ktr_room) (by ktr_units) ⟨by k_mem, by first | assumption | omega, by first | assumption | omega, by first | assumption | omega, by first | assumption | omega, ?_⟩; k_whole; intro r9 a9 b9 c9 h9 tk9 F9 N9 l9; (try dsimp only); (try k_fold))))
local macro_rules | `(tactic| walk_at "call ref") => `(tactic| (k_here; (with_reducible show wpAny _ _ (call (Value.ref 45) _ _) _ _ _); k_dflt (refine distance_spec _ _ _ _ _ _ _ _ _ _ _ _ _ _ _ _ _ _ _ _ _ _ _ _ _ _ _ _ _ _ _ _ _ (by k_asm) (by k_asm) (by k_asm) (by k_asm) (by k_asm) (by ktr_room) (by ktr_units) ⟨by k_mem, by k_mem, ?_⟩; k_whole; intro t9 h9 tk9 F9 N9; (try dsimp only); (try k_fold))))

/-- the quality k's table is this one -/
def Hit (x y mo u v k : Int) : Prop := capOf x (scaleOf k) mo = u ∧ capOf y (scaleOf k) mo = v

theorem quality_of_spec {w : World} {p : Program} {loose : List Str} {mean : ExcName → Option Value} {mg mb : Str → Option Value} (tq tb : Addr) (u v x y mo : Int) (tu tv tx ty t1 : Tok) (c d : Nat) :
    Spot w p loose mean mg mb 12 (fun news h₀ L m s Q => (tq, tup2 u v tu tv c) ∈ news ∧ (tb, tup2 x y tx ty d) ∈ news ∧ Okd x ∧ Okd y ∧ Okd mo ∧
      (∀ (h' : Heap) (tk' : Nat), (∀ k, 1 ≤ k → k ≤ 100 → ¬ Hit x y mo u v k) → Fr h₀ L h' m → News h₀ L h' news → Q .none { s with heap := h', toks := tk' }) ∧
      (∀ (k : Int) (t : Tok) (h' : Heap) (tk' : Nat), 1 ≤ k → k ≤ 100 → Hit x y mo u v k → (∀ j, k < j → j ≤ 100 → ¬ Hit x y mo u v j) → Fr h₀ L h' m → News h₀ L h' news → Q (.int k t) { s with heap := h', toks := tk' })) 40 [.ref tq, .ref tb, .int mo t1] := by
  unfold Spot; k_fill
  intro dp un gd cn kn g1 g2 mo' a ccd cl outer A₀ base h₀ L m news s Q E B F X N T hdp hun ⟨hT, hT2, hx, hy, hmo, hnone, hsome⟩
  refine wpAny_call ?_
  k_dflt k_enter
  k_steps
  rename Fr _ _ _ _ => lF'
  rename News _ _ _ _ => lN'
  rename IsRange _ _ _ _ _ _ _ _ => rgX
  with_unfolding_all refine' kst_rangeD (fun _ : Unit => news) (fun _ => []) (fun _ => True) [] (fun pre _ => ∀ j, 100 - (pre.length : Int) < j → j ≤ 100 → ¬ Hit x y mo u v j) () (by rfl) rgX (by decide) (n := 100) (by decide) lF' lN' True.intro (fun _ h => nomatch h) (fun j h1 h2 => absurd h2 (by simp at h1; omega)) ?_ ?_
  · intro kC kPre kN kT kU kH kTk kOwn kEq kLt kOff kFacts kInv kFr kNews
    try k_fold
    k_steps
    · have hk := ‹_ ∧ _›
      exact hsome kN kT _ _ (by omega) (by omega) (by assumption) (fun j h1 h2 => kInv j (by omega) h2) (by assumption) (cb_drop (by assumption) (fun p hp => by simp [hp]))
    · refine kst_end () (by assumption) (by assumption) (fun p hp => List.mem_cons_of_mem _ (List.mem_append_left _ hp)) (fun p hp => List.mem_cons_of_mem _ (List.mem_append_right _ hp)) rfl True.intro (fun _ h => nomatch h) (by intro z h1 h2 h3; simp [h1, kstB]) ?_
      intro j h1 h2
      rw [List.length_append, List.length_singleton] at h1
      by_cases hj : j = kN
      · subst hj; assumption
      · exact kInv j (by omega) h2
  · intro kC kU kH kTk kFacts kInv kFr kNews
    try k_fold
    k_steps
    exact hnone _ _ (fun j h1 h2 => kInv j (by rw [downKs_length]; omega) h2) (by assumption) (by assumption)
end Mine
/- C10 -/
namespace Mine
open PyProof.Rows.LCg
local macro_rules | `(tactic| k_room) => `(tactic| ktr_room)
local macro_rules | `(tactic| walk_at "eval ListComp") => `(tactic| (k_here; (first | (with_reducible show wpAny _ _ (eval (Expr.ListComp _ [⟨_, Expr.Name (Str.ofString "qtable") _, _, _⟩] _ _) _) _ _ _) | (with_reducible show wpAny _ _ (eval (Expr.ListComp _ [⟨_, Expr.Name (Str.ofString "base") _, _, _⟩] _ _) _) _ _ _)); k_dflt (refine ListComp_Tup (F₀ := by k_asm) (by with_unfolding_all rfl) (by decide) (by rfl) (by decide) (by rfl) ?_)))
local macro_rules | `(tactic| walk_at "CompSrcTp") => `(tactic| (k_here; k_dflt (refine CompSrcTp.intro (by rfl) (by k_asm) (by k_asm) (by k_mem) (by first | size_fits | exact Nat.le_of_ble_eq_true rfl) ?_; intro g'; lcg_lit)))
local macro_rules | `(tactic| lcg_src) => `(tactic| exact ⟨_, by k_mem, rfl, _, rfl⟩)
local macro_rules | `(tactic| k_mem) => `(tactic| ((repeat' first | exact List.mem_cons_self | assumption | exact updF_mem (by assumption) _ | exact List.mem_append_left _ (by assumption) | refine List.mem_cons_of_mem _ ?_); done))
local macro_rules | `(tactic| walk_at "CompRest") => `(tactic| (with_unfolding_all (refine LCg.CompRest.succ ?_; intro v' I' oI' C' oC' D' m' h' tk' E' hv' hC' hx' F' N' off' ne'; (first | lcg_open hv' | (obtain ⟨t9', hv9'⟩ := hv'; subst hv9')); (have off2' := off'); (try simp only [LCg.Off3, and_true] at off2'))))
local macro_rules | `(tactic| walk_at "CompEnd") => `(tactic| ((rename News _ _ _ _ => nE'); refine LCg.CompEnd.intro (by assumption) nE' _ (by first | exact fun p hp => hp | exact fun p hp => List.mem_cons_of_mem _ hp) (by assumption) (by lcg_src) ?_))
local macro_rules | `(tactic| k_all) => `(tactic| first | exact allLt_ne (by assumption) (by omega) | exact allLt_ne' (by assumption) (by omega))
local macro_rules | `(tactic| walk_at "CompSrc") => `(tactic| (k_here; k_dflt (refine LCg.CompSrc.range (by rfl) (by k_asm) (by k_asm) (by assumption) (by first | decide | rfl) (by first | rfl | decide) (by first | size_fits | exact Nat.le_of_ble_eq_true rfl) ?_; intro g'; lcg_lit)))
local macro_rules | `(tactic| k_upd) => `(tactic| first | exact updF_upd0 (by assumption) _ | exact updF_upd (by assumption) _ _)
local macro_rules | `(tactic| is_list) => `(tactic| exact News.isList (by k_asm) (by k_mem))
local macro_rules | `(tactic| walk_at "call type:tuple") => `(tactic| (k_here; (with_reducible show wpAny _ _ (call (Value.type "tuple") [Value.ref _]) _ _ _); k_dflt (refine call_tuple_same (News.isTup (by k_asm) (by k_mem)) ?_)))
local macro_rules | `(tactic| walk_at "compareOp Eq ref ref") => `(tactic| (k_here; (with_reducible show wpAny _ _ (compareOp CmpOp.Eq (Value.ref _) (Value.ref _)) _ _ _); k_dflt (refine eq_tup2 (by k_asm) (by k_mem) (by k_mem) (by ktr_units) ?_)))
local macro_rules | `(tactic| walk_at "compareOp NotEq ref ref") => `(tactic| (k_here; (with_reducible show wpAny _ _ (compareOp CmpOp.NotEq (Value.ref _) (Value.ref _)) _ _ _); k_dflt (refine ne_tup2 (by k_asm) (by k_mem) (by k_mem) (by ktr_units) ?_)))
local macro_rules | `(tactic| walk_at "pyIter ref") => `(tactic| (k_here; (with_reducible show wpAny _ _ (pyIter (Value.ref _)) (fun it s₂ => PyProof.Rows.LoopAtV _ _ _ _ _ _ _ _ _ it s₂) _ _); refine Halt.of ?_))
local macro_rules | `(tactic| walk_at "call ref") => `(tactic| (k_here; (with_reducible show wpAny _ _ (call (Value.ref 21) _ _) _ _ _); k_dflt (refine' quality_scale_spec _ _ _ _ _ _ _ _ _ _ _ _ _ _ _ _ _ _ _ _ _ _ _ ?kB ?kF ?kX ?kN ?kT ?kd ?ku ?kR; (case kB => k_asm); (case kF => k_asm); (case kX => k_asm); (case kN => k_asm); (case kT => k_asm); (case kd => ktr_room); (case ku => ktr_units); intro t9 h9 tk9 F9 N9; (try dsimp only); (try k_fold))))
local macro_rules | `(tactic| walk_at "call ref") => `(tactic| (k_here; (with_reducible show wpAny _ _ (call (Value.ref 26) _ _) _ _ _); k_dflt (refine scaled_by_spec _ _ _ _ _ _ _ _ _ _ _ _ _ _ _ _ _ _ _ _ _ _ _ _ _ _ _ _ _ _ _ (by k_asm) (by k_asm) (by k_asm) (by k_asm) (by k_asm) (by ktr_room) (by ktr_units) ⟨by k_mem, by first | assumption | omega, by first | assumption | omega, by first | assumption | exact scale_bounds _ | omega, by first | assumption | omega, ?_⟩; k_whole; intro r9 a9 b9 c9 h9 tk9 F9 N9 l9; (try dsimp only); (try k_fold))))
local macro_rules | `(tactic| walk_at "call ref") => `(tactic| (k_here; (with_reducible show wpAny _ _ (call (Value.ref 33) _ _) _ _ _); k_dflt (refine scaled_table_spec _ _ _ _ _ _ _ _ _ _ _ _ _ _ _ _ _ _ _ _ _ _ _ _ _ _ _ _ _ _ _ (by k_asm) (by k_asm) (by k_asm) (by k_asm) (by k_asm) (by ktr_room) (by ktr_units) ⟨by k_mem, by first | assumption | omega, by first | assumption | omega, by first | assumption | omega, ?_⟩; k_whole; intro r9 a9 b9 c9 h9 tk9 F9 N9 l9; (try dsimp only); (try k_fold))))
local macro_rules | `(tactic| walk_at "call ref") => `(tactic| (k_here; (with_reducible show wpAny _ _ (call (Value.ref 71) _ _) _ _ _); k_dflt (refine law_table_spec _ _ _ _ _ _ _ _ _ _ _ _ _ _ _ _ _ _ _ _ _ _ _ _ _ _ _ _ _ _ _ (by k_asm) (by k_asm) (by k_asm) (by k_asm) (by k_asm) (by ktr_room) (by ktr_units) ⟨by k_mem, by first | assumption | omega, by first | assumption | omega, by first | assumption | omega, by first | assumption | omega, ?_⟩; k_whole; intro r9 a9 b9 c9 h9 tk9 F9 N9 l9; (try dsimp only); (try k_fold))))
local macro_rules | `(tactic| walk_at "call ref") => `(tactic| (k_here; (with_reducible show wpAny _ _ (call (Value.ref 45) _ _) _ _ _); k_dflt (refine distance_spec _ _ _ _ _ _ _ _ _ _ _ _ _ _ _ _ _ _ _ _ _ _ _ _ _ _ _ _ _ _ _ _ _ (by k_asm) (by k_asm) (by k_asm) (by k_asm) (by k_asm) (by ktr_room) (by ktr_units) ⟨by k_mem, by k_mem, ?_⟩; k_whole; intro t9 h9 tk9 F9 N9; (try dsimp only); (try k_fold))))

/-- how far the quality k's table is from this one -/
def Gap (x y mo u v k : Int) : Int := (((capOf x (scaleOf k) mo) - u).natAbs : Int) + ((capOf y (scaleOf k) mo) - v).natAbs
/-- b is the nearest of those from lo on, the greatest of like ones -/
def Best (x y mo u v lo b : Int) : Prop := lo < b ∧ b ≤ 100 ∧ ∀ j, lo < j → j ≤ 100 → Gap x y mo u v b ≤ Gap x y mo u v j ∧ (b < j → Gap x y mo u v b < Gap x y mo u v j)
def NqP (x y mo u v : Int) (pre : List Int) (c : Int × Tok × Value) : Prop :=
  (pre = [] ∧ c.2.2 = .none) ∨ (Best x y mo u v (100 - (pre.length : Int)) c.1 ∧ ∃ t, c.2.2 = .int (Gap x y mo u v c.1) t)

theorem nq_first {x y mo u v k g : Int} {tk t : Tok} (hg : g = Gap x y mo u v k) (hk : k = 100) : NqP x y mo u v ([] ++ [k]) (k, tk, .int g t) := by
  subst hg; subst hk
  refine .inr ⟨⟨by simp, by omega, fun j h1 h2 => ?_⟩, t, rfl⟩
  have e : j = 100 := by simp at h1; omega
  subst e
  exact ⟨Int.le_refl _, fun h => absurd h (by omega)⟩
theorem nq_less {x y mo u v k b g : Int} {pre : List Int} {tk t : Tok} (hg : g = Gap x y mo u v k) (hb : Best x y mo u v (100 - (pre.length : Int)) b) (hl : g < Gap x y mo u v b) (hk : k = 100 - (pre.length : Int)) : NqP x y mo u v (pre ++ [k]) (k, tk, .int g t) := by
  subst hg
  refine .inr ⟨?_, t, rfl⟩
  rw [List.length_append, List.length_singleton]
  have hb1 := hb.1; have hb2 := hb.2.1
  refine ⟨by dsimp only; omega, by dsimp only; omega, fun j h1 h2 => ?_⟩
  dsimp only
  by_cases e : j = k
  · subst e; exact ⟨Int.le_refl _, fun h => absurd h (by omega)⟩
  · have h := (hb.2.2 j (by omega) h2).1
    exact ⟨by omega, fun _ => by omega⟩
theorem nq_keep {x y mo u v k b g : Int} {pre : List Int} {tk t : Tok} (hg : g = Gap x y mo u v k) (hb : Best x y mo u v (100 - (pre.length : Int)) b) (hl : ¬ g < Gap x y mo u v b) (hk : k = 100 - (pre.length : Int)) : NqP x y mo u v (pre ++ [k]) (b, tk, .int (Gap x y mo u v b) t) := by
  subst hg
  refine .inr ⟨?_, t, rfl⟩
  rw [List.length_append, List.length_singleton]
  have h1 := hb.1
  refine ⟨by dsimp only; omega, hb.2.1, fun j h1 h2 => ?_⟩
  dsimp only
  by_cases e : j = k
  · subst e; exact ⟨by omega, fun h => absurd h (by omega)⟩
  · exact hb.2.2 j (by omega) h2
theorem nq_done {x y mo u v : Int} {c : Int × Tok × Value} (h : NqP x y mo u v (downKs 100 100) c) : Best x y mo u v 0 c.1 := by
  rcases h with ⟨e, _⟩ | ⟨h, _⟩
  · exact absurd (congrArg List.length e) (by rw [downKs_length]; simp)
  · rw [downKs_length] at h
    exact h

theorem nearest_quality_spec {w : World} {p : Program} {loose : List Str} {mean : ExcName → Option Value} {mg mb : Str → Option Value} (tq tb : Addr) (u v x y mo : Int) (tu tv tx ty t1 : Tok) (c d : Nat) :
    Spot w p loose mean mg mb 12 (fun news h₀ L m s Q => (tq, tup2 u v tu tv c) ∈ news ∧ (tb, tup2 x y tx ty d) ∈ news ∧ Okd x ∧ Okd y ∧ Okd mo ∧
      (∀ (k : Int) (t : Tok) (h' : Heap) (tk' : Nat), Best x y mo u v 0 k → Fr h₀ L h' m → News h₀ L h' news → Q (.int k t) { s with heap := h', toks := tk' })) 52 [.ref tq, .ref tb, .int mo t1] := by
  unfold Spot; k_fill
  intro dp un gd cn kn g1 g2 mo' a ccd cl outer A₀ base h₀ L m news s Q E B F X N T hdp hun ⟨hT, hT2, hx, hy, hmo, hret⟩
  refine wpAny_call ?_
  k_dflt k_enter
  k_steps
  rename Fr _ _ _ _ => lF'
  rename News _ _ _ _ => lN'
  rename IsRange _ _ _ _ _ _ _ _ => rgX
  unfold Halt
  with_unfolding_all refine' kst_rangeD (fun _ : Int × Tok × Value => news) (fun c => [(Str.ofString "best", .int c.1 c.2.1), (Str.ofString "least", c.2.2)]) (fun _ => True) [Str.ofString "told", Str.ofString "best", Str.ofString "least"] (NqP x y mo u v) (100, _, .none) (by rfl) rgX (by decide) (n := 100) (by decide) lF' (cb_drop lN' (fun p hp => List.mem_cons_of_mem _ hp)) True.intro ?ks (.inl ⟨rfl, rfl⟩) ?_ ?_
  case ks => intro p hp; simp only [List.mem_cons, List.not_mem_nil, or_false] at hp; rcases hp with rfl | rfl <;> rfl
  · rintro ⟨b, tb', lv⟩ kPre kN kT kU kH kTk kOwn kEq kLt kOff kFacts kInv kFr kNews
    rcases kInv with ⟨e1, e2⟩ | ⟨hb, tl, e2⟩
    · dsimp only at e2
      subst e2; subst e1
      dsimp only [kstB] at kFr
      k_steps
      refine kst_end (kN, kT, .int _ _) (by assumption) (by assumption) (fun p (hp : p ∈ news) => by simp [hp]) (fun p hp => by simp [hp]) rfl True.intro (List.forall_mem_cons.mpr ⟨by exact rfl, List.forall_mem_cons.mpr ⟨by exact rfl, fun _ h => nomatch h⟩⟩) ?_ (nq_first rfl (by simpa using kEq))
      · intro z h1 h2 h3; simp only [List.contains_cons, List.contains_nil, Bool.or_false, Bool.or_eq_false_iff, beq_eq_false_iff_ne, ne_eq] at h3; simp [h1, h3]
    · dsimp only at e2 hb
      subst e2
      dsimp only [kstB] at kFr
      k_steps
      · refine kst_end (kN, kT, .int _ _) (by assumption) (by assumption) (fun p (hp : p ∈ news) => by simp [hp]) (fun p hp => by simp [hp]) rfl True.intro (List.forall_mem_cons.mpr ⟨by exact rfl, List.forall_mem_cons.mpr ⟨by exact rfl, fun _ h => nomatch h⟩⟩) ?_ (nq_less rfl hb (by assumption) kEq)
        · intro z h1 h2 h3; simp only [List.contains_cons, List.contains_nil, Bool.or_false, Bool.or_eq_false_iff, beq_eq_false_iff_ne, ne_eq] at h3; simp [h1, h3]
      · refine kst_end (b, tb', .int _ tl) (by assumption) (by assumption) (fun p (hp : p ∈ news) => by simp [hp]) (fun p hp => by simp [hp]) rfl True.intro (List.forall_mem_cons.mpr ⟨by exact rfl, List.forall_mem_cons.mpr ⟨by exact rfl, fun _ h => nomatch h⟩⟩) ?_ (nq_keep rfl hb (by assumption) kEq)
        · intro z h1 h2 h3; simp only [List.contains_cons, List.contains_nil, Bool.or_false, Bool.or_eq_false_iff, beq_eq_false_iff_ne, ne_eq] at h3; simp [h1, h3]
  · rintro ⟨b, tb', lv⟩ kU kH kTk kFacts kInv kFr kNews
    dsimp only [kstB] at kFr
    try k_fold
    k_steps
    exact hret _ _ _ _ (nq_done kInv) (by assumption) (by assumption)
end Mine
/- C11 -/
namespace Mine
open PyProof.Rows.LCg
local macro_rules | `(tactic| k_room) => `(tactic| ktr_room)
local macro_rules | `(tactic| walk_at "eval ListComp") => `(tactic| (k_here; (first | (with_reducible show wpAny _ _ (eval (Expr.ListComp _ [⟨_, Expr.Name (Str.ofString "qtable") _, _, _⟩] _ _) _) _ _ _) | (with_reducible show wpAny _ _ (eval (Expr.ListComp _ [⟨_, Expr.Name (Str.ofString "base") _, _, _⟩] _ _) _) _ _ _)); k_dflt (refine ListComp_Tup (F₀ := by k_asm) (by with_unfolding_all rfl) (by decide) (by rfl) (by decide) (by rfl) ?_)))
local macro_rules | `(tactic| walk_at "CompSrcTp") => `(tactic| (k_here; k_dflt (refine CompSrcTp.intro (by rfl) (by k_asm) (by k_asm) (by k_mem) (by first | size_fits | exact Nat.le_of_ble_eq_true rfl) ?_; intro g'; lcg_lit)))
local macro_rules | `(tactic| lcg_src) => `(tactic| exact ⟨_, by k_mem, rfl, _, rfl⟩)
local macro_rules | `(tactic| k_mem) => `(tactic| ((repeat' first | exact List.mem_cons_self | assumption | exact updF_mem (by assumption) _ | exact List.mem_append_left _ (by assumption) | refine List.mem_cons_of_mem _ ?_); done))
local macro_rules | `(tactic| walk_at "CompRest") => `(tactic| (with_unfolding_all (refine LCg.CompRest.succ ?_; intro v' I' oI' C' oC' D' m' h' tk' E' hv' hC' hx' F' N' off' ne'; (first | lcg_open hv' | (obtain ⟨t9', hv9'⟩ := hv'; subst hv9')); (have off2' := off'); (try simp only [LCg.Off3, and_true] at off2'))))
local macro_rules | `(tactic| walk_at "CompEnd") => `(tactic| ((rename News _ _ _ _ => nE'); refine LCg.CompEnd.intro (by assumption) nE' _ (by first | exact fun p hp => hp | exact fun p hp => List.mem_cons_of_mem _ hp) (by assumption) (by lcg_src) ?_))
local macro_rules | `(tactic| k_all) => `(tactic| first | exact allLt_ne (by assumption) (by omega) | exact allLt_ne' (by assumption) (by omega))
local macro_rules | `(tactic| walk_at "CompSrc") => `(tactic| (k_here; k_dflt (refine LCg.CompSrc.range (by rfl) (by k_asm) (by k_asm) (by assumption) (by first | decide | rfl) (by first | rfl | decide) (by first | size_fits | exact Nat.le_of_ble_eq_true rfl) ?_; intro g'; lcg_lit)))
local macro_rules | `(tactic| k_upd) => `(tactic| first | exact updF_upd0 (by assumption) _ | exact updF_upd (by assumption) _ _)
local macro_rules | `(tactic| is_list) => `(tactic| exact News.isList (by k_asm) (by k_mem))
local macro_rules | `(tactic| walk_at "call type:tuple") => `(tactic| (k_here; (with_reducible show wpAny _ _ (call (Value.type "tuple") [Value.ref _]) _ _ _); k_dflt (refine call_tuple_same (News.isTup (by k_asm) (by k_mem)) ?_)))
local macro_rules | `(tactic| walk_at "compareOp Eq ref ref") => `(tactic| (k_here; (with_reducible show wpAny _ _ (compareOp CmpOp.Eq (Value.ref _) (Value.ref _)) _ _ _); k_dflt (refine eq_tup2 (by k_asm) (by k_mem) (by k_mem) (by ktr_units) ?_)))
local macro_rules | `(tactic| walk_at "compareOp NotEq ref ref") => `(tactic| (k_here; (with_reducible show wpAny _ _ (compareOp CmpOp.NotEq (Value.ref _) (Value.ref _)) _ _ _); k_dflt (refine ne_tup2 (by k_asm) (by k_mem) (by k_mem) (by ktr_units) ?_)))
local macro_rules | `(tactic| walk_at "pyIter ref") => `(tactic| (k_here; (with_reducible show wpAny _ _ (pyIter (Value.ref _)) (fun it s₂ => PyProof.Rows.LoopAtV _ _ _ _ _ _ _ _ _ it s₂) _ _); refine Halt.of ?_))
local macro_rules | `(tactic| walk_at "eval ListComp") => `(tactic| (k_here; (with_reducible show wpAny _ _ (eval (Expr.ListComp _ [⟨Expr.Tuple _ _ _, _, _, _⟩] _ _) _) _ _ _); k_dflt (refine ListComp_Zip (by k_asm) (by with_unfolding_all rfl) (by decide) (by rfl) (by decide) (by rfl) (by rfl) (by decide) ?_)))
local macro_rules | `(tactic| walk_at "call type:zip") => `(tactic| (k_here; refine Halt.of ?_))
local macro_rules | `(tactic| walk_at "call ref") => `(tactic| (k_here; (with_reducible show wpAny _ _ (call (Value.ref 21) _ _) _ _ _); k_dflt (refine' quality_scale_spec _ _ _ _ _ _ _ _ _ _ _ _ _ _ _ _ _ _ _ _ _ _ _ ?kB ?kF ?kX ?kN ?kT ?kd ?ku ?kR; (case kB => k_asm); (case kF => k_asm); (case kX => k_asm); (case kN => k_asm); (case kT => k_asm); (case kd => ktr_room); (case ku => ktr_units); intro t9 h9 tk9 F9 N9; (try dsimp only); (try k_fold))))
local macro_rules | `(tactic| walk_at "call ref") => `(tactic| (k_here; (with_reducible show wpAny _ _ (call (Value.ref 26) _ _) _ _ _); k_dflt (refine scaled_by_spec _ _ _ _ _ _ _ _ _ _ _ _ _ _ _ _ _ _ _ _ _ _ _ _ _ _ _ _ _ _ _ (by k_asm) (by k_asm) (by k_asm) (by k_asm) (by k_asm) (by ktr_room) (by ktr_units) ⟨by k_mem, by first | assumption | omega, by first | assumption | omega, by first | assumption | exact scale_bounds _ | omega, by first | assumption | omega, ?_⟩; k_whole; intro r9 a9 b9 c9 h9 tk9 F9 N9 l9; (try dsimp only); (try k_fold))))
local macro_rules | `(tactic| walk_at "call ref") => `(tactic| (k_here; (with_reducible show wpAny _ _ (call (Value.ref 33) _ _) _ _ _); k_dflt (refine scaled_table_spec _ _ _ _ _ _ _ _ _ _ _ _ _ _ _ _ _ _ _ _ _ _ _ _ _ _ _ _ _ _ _ (by k_asm) (by k_asm) (by k_asm) (by k_asm) (by k_asm) (by ktr_room) (by ktr_units) ⟨by k_mem, by first | assumption | omega, by first | assumption | omega, by first | assumption | omega, ?_⟩; k_whole; intro r9 a9 b9 c9 h9 tk9 F9 N9 l9; (try dsimp only); (try k_fold))))
local macro_rules | `(tactic| walk_at "call ref") => `(tactic| (k_here; (with_reducible show wpAny _ _ (call (Value.ref 71) _ _) _ _ _); k_dflt (refine law_table_spec _ _ _ _ _ _ _ _ _ _ _ _ _ _ _ _ _ _ _ _ _ _ _ _ _ _ _ _ _ _ _ (by k_asm) (by k_asm) (by k_asm) (by k_asm) (by k_asm) (by ktr_room) (by ktr_units) ⟨by k_mem, by first | assumption | omega, by first | assumption | omega, by first | assumption | omega, by first | assumption | omega, ?_⟩; k_whole; intro r9 a9 b9 c9 h9 tk9 F9 N9 l9; (try dsimp only); (try k_fold))))
local macro_rules | `(tactic| walk_at "call ref") => `(tactic| (k_here; (with_reducible show wpAny _ _ (call (Value.ref 45) _ _) _ _ _); k_dflt (refine distance_spec _ _ _ _ _ _ _ _ _ _ _ _ _ _ _ _ _ _ _ _ _ _ _ _ _ _ _ _ _ _ _ _ _ (by k_asm) (by k_asm) (by k_asm) (by k_asm) (by k_asm) (by ktr_room) (by ktr_units) ⟨by k_mem, by k_mem, ?_⟩; k_whole; intro t9 h9 tk9 F9 N9; (try dsimp only); (try k_fold))))
local macro_rules | `(tactic| walk_at "call ref") => `(tactic| (k_here; (with_reducible show wpAny _ _ (call (Value.ref 76) _ _) _ _ _); k_dflt (refine law_gap_spec _ _ _ _ _ _ _ _ _ _ _ _ _ _ _ _ _ _ _ _ _ _ _ _ _ _ _ _ _ _ _ _ _ (by k_asm) (by k_asm) (by k_asm) (by k_asm) (by k_asm) (by ktr_room) (by ktr_units) ⟨by k_mem, by k_mem, ?_⟩; k_whole; intro t9 h9 tk9 F9 N9; (try dsimp only); (try k_fold))))
local macro_rules | `(tactic| walk_at "call ref") => `(tactic| (k_here; (with_reducible show wpAny _ _ (call (Value.ref 40) _ _) _ _ _); refine Halt.of ?_))
local macro_rules | `(tactic| walk_at "call ref") => `(tactic| (k_here; (with_reducible show wpAny _ _ (call (Value.ref 52) _ _) _ _ _); refine Halt.of ?_))
local macro_rules | `(tactic| walk_at "CompSrcT") => `(tactic| (k_here; refine Halt.of ?_))

abbrev lstOf (vs : List Value) (c : Nat) : Obj := { cls := .type "list", data := .seq vs.toArray c }
/-- qualities above lo, up to 100 -/
def Among (lo : Int) (vs : List Value) : Prop := ∀ v ∈ vs, ∃ k t, v = Value.int k t ∧ lo < k ∧ k ≤ 100
theorem Among.at {lo : Int} {vs : List Value} {i : Nat} {v : Value} (h : Among lo vs) (e : vs.toArray[i]? = some v) : ∃ k t, v = Value.int k t ∧ lo < k ∧ k ≤ 100 := by
  rw [List.getElem?_toArray] at e
  exact h v (List.mem_of_getElem? e)
theorem Among.snoc {lo : Int} {vs : List Value} {k : Int} {t : Tok} (h : Among lo vs) (h1 : lo < k) (h2 : k ≤ 100) : Among lo (vs ++ [.int k t]) := by
  intro v hv
  rcases List.mem_append.mp hv with hv | hv
  · exact h v hv
  · obtain rfl := List.mem_singleton.mp hv
    exact ⟨k, t, rfl, h1, h2⟩
theorem Among.nil {lo : Int} : Among lo [] := fun _ h => nomatch h

theorem not_true_of {P : Prop} [Decidable P] (h : ¬ P) : (!decide P) = true := by rw [decide_eq_false h]; rfl
theorem ret_true {h₀ h' : Heap} {L : Addr} {m : Str → Option Value} {news : List (Addr × Obj)} {s : Shared} {Q : Value → Shared → Prop} {b : Bool} {tk' : Nat}
    (hret : ∀ (h' : Heap) (tk' : Nat), Fr h₀ L h' m → News h₀ L h' news → Q (.bool true) { s with heap := h', toks := tk' }) (e : b = true) (F : Fr h₀ L h' m) (N : News h₀ L h' news) : Q (.bool b) { s with heap := h', toks := tk' } := by
  subst e; exact hret _ _ F N

theorem told_right_spec {w : World} {p : Program} {loose : List Str} {mean : ExcName → Option Value} {mg mb : Str → Option Value} (tb tq sp : Addr) (x y mo u v q : Int) (vs : List Value) (tx ty tm tu tv tk0 : Tok) (c d e : Nat) :
    Spot w p loose mean mg mb 16 (fun news h₀ L m s Q => (tb, tup2 x y tx ty c) ∈ news ∧ (tq, tup2 u v tu tv d) ∈ news ∧ (sp, lstOf vs e) ∈ news ∧ Okd x ∧ Okd y ∧ Okd mo ∧ (1 ≤ q ∧ q ≤ 100) ∧ Among 0 vs ∧ vs.length ≤ 64 ∧
      (∀ (h' : Heap) (tk' : Nat), Fr h₀ L h' m → News h₀ L h' news → Q (.bool true) { s with heap := h', toks := tk' })) 81 [.ref tb, .int mo tm, .ref tq, .int q tk0, .ref sp] := by
  unfold Spot; k_fill
  intro dp un gd cn kn g1 g2 mo' a ccd cl outer A₀ base h₀ L m news s Q E B F X N T hdp hun ⟨hT, hT2, hT3, hx, hy, hmo, hq, hvs, hlen, hret⟩
  refine wpAny_call ?_
  k_dflt k_enter
  k_steps
  unfold Halt
  k_dflt (refine quality_of_spec _ _ _ _ _ _ _ _ _ _ _ _ _ _ _ _ _ _ _ _ _ _ _ _ _ _ _ _ _ _ _ _ _ _ _ (by k_asm) (by k_asm) (by k_asm) (by k_asm) (by k_asm) (by ktr_room) (by ktr_units) ⟨by k_mem, by k_mem, hx, hy, hmo, ?_, ?_⟩)
  · intro h9 tk9 hN F9 N9
    try k_fold
    k_steps
    unfold Halt
    k_dflt (refine LCt.CompSrcT.ledger (by rfl) (by k_asm) (by k_asm) (by k_mem) (by rw [List.size_toArray]; exact Nat.le_trans hlen (Nat.le_of_ble_eq_true rfl)) ?_)
    intro g'
    refine restT_ind (fun i ys => ys.length ≤ i ∧ Among 0 ys) (Or.inr ⟨_, by k_mem, rfl, _, rfl⟩) ?_ ?_ vs.toArray.size 0 [] (Nat.zero_add _) ⟨Nat.le_refl _, Among.nil⟩
    · intro i v' ys I oI C oC D m₂ h tk E' hlt hP hJ hoC hx' kF kN off ne
      obtain ⟨k, tk', rfl, hk1, hk2⟩ := hvs.at hP
      k_steps
      exact ⟨_, _, rfl, by k_asm, by k_asm, by rw [List.length_append, List.length_singleton]; exact Nat.succ_le_succ hJ.1, hJ.2.snoc hk1 hk2⟩
    · intro ys hJ
      rw [List.size_toArray] at hJ
      obtain ⟨hyl, hys⟩ := hJ
      k_steps
      unfold Halt
      k_dflt (refine LCt.CompSrcT.ledger (by rfl) (by k_asm) (by k_asm) (by k_mem) (by rw [List.size_toArray]; exact Nat.le_trans (Nat.le_trans hyl hlen) (Nat.le_of_ble_eq_true rfl)) ?_)
      intro g2'
      refine restT_ind (fun i zs => zs = []) (Or.inr ⟨_, by k_mem, rfl, _, rfl⟩) ?_ ?_ ys.toArray.size 0 [] (Nat.zero_add _) rfl
      · intro i v' zs I oI C oC D m₂ h tk E' hlt hP hJ hoC hx' kF kN off ne
        subst hJ
        obtain ⟨k, tk', rfl, hk1, hk2⟩ := hys.at hP
        have hq9 : 1 ≤ k ∧ k ≤ 100 := ⟨by omega, hk2⟩
        k_steps
        · exact absurd (by assumption) (hN k hq9.1 hq9.2)
        · exact ⟨_, _, rfl, by k_asm, cb_drop (by assumption) (fun p hp => List.mem_cons_of_mem _ hp), rfl⟩
      · intro zs hJ
        subst hJ
        k_steps
        exact ret_true hret (not_true_of (hN q hq.1 hq.2)) (by k_asm) (cb_drop (by assumption) (fun p hp => by simp [hp]))
  · intro k9 t9 h9 tk9 hk1 hk2 hH hN F9 N9
    have hq8 : 1 ≤ k9 ∧ k9 ≤ 100 := ⟨hk1, hk2⟩
    try k_fold
    k_steps
    unfold Halt
    k_dflt (refine LCt.CompSrcT.ledger (by rfl) (by k_asm) (by k_asm) (by k_mem) (by rw [List.size_toArray]; exact Nat.le_trans hlen (Nat.le_of_ble_eq_true rfl)) ?_)
    intro g'
    refine restT_ind (fun i ys => ys.length ≤ i ∧ Among k9 ys) (Or.inr ⟨_, by k_mem, rfl, _, rfl⟩) ?_ ?_ vs.toArray.size 0 [] (Nat.zero_add _) ⟨Nat.le_refl _, Among.nil⟩
    · intro i v' ys I oI C oC D m₂ h tk E' hlt hP hJ hoC hx' kF kN off ne
      obtain ⟨k, tk', rfl, hk3, hk4⟩ := hvs.at hP
      k_steps
      · exact ⟨_, _, rfl, by k_asm, by k_asm, by rw [List.length_append, List.length_singleton]; exact Nat.succ_le_succ hJ.1, hJ.2.snoc (by omega) hk4⟩
      · exact ⟨_, _, rfl, by k_asm, by k_asm, Nat.le_succ_of_le hJ.1, hJ.2⟩
    · intro ys hJ
      rw [List.size_toArray] at hJ
      obtain ⟨hyl, hys⟩ := hJ
      k_steps
      unfold Halt
      k_dflt (refine LCt.CompSrcT.ledger (by rfl) (by k_asm) (by k_asm) (by k_mem) (by rw [List.size_toArray]; exact Nat.le_trans (Nat.le_trans hyl hlen) (Nat.le_of_ble_eq_true rfl)) ?_)
      intro g2'
      refine restT_ind (fun i zs => zs = []) (Or.inr ⟨_, by k_mem, rfl, _, rfl⟩) ?_ ?_ ys.toArray.size 0 [] (Nat.zero_add _) rfl
      · intro i v' zs I oI C oC D m₂ h tk E' hlt hP hJ hoC hx' kF kN off ne
        subst hJ
        obtain ⟨k, tk', rfl, hk3, hk4⟩ := hys.at hP
        have hq9 : 1 ≤ k ∧ k ≤ 100 := ⟨by omega, hk4⟩
        k_steps
        · exact absurd (by assumption) (hN k hk3 hk4)
        · exact ⟨_, _, rfl, by k_asm, cb_drop (by assumption) (fun p hp => List.mem_cons_of_mem _ hp), rfl⟩
      · intro zs hJ
        subst hJ
        k_steps
        exact ret_true hret (decide_eq_true hH) (by k_asm) (cb_drop (by assumption) (fun p hp => by simp [hp]))
end Mine
/- C12 -/
namespace Mine
local macro_rules | `(tactic| walk_at "pad0") => `(tactic| fail)
open PyProof.Rows.LCg
local macro_rules | `(tactic| k_room) => `(tactic| ktr_room)
local macro_rules | `(tactic| walk_at "eval ListComp") => `(tactic| (k_here; (first | (with_reducible show wpAny _ _ (eval (Expr.ListComp _ [⟨_, Expr.Name (Str.ofString "qtable") _, _, _⟩] _ _) _) _ _ _) | (with_reducible show wpAny _ _ (eval (Expr.ListComp _ [⟨_, Expr.Name (Str.ofString "base") _, _, _⟩] _ _) _) _ _ _)); k_dflt (refine ListComp_Tup (F₀ := by k_asm) (by with_unfolding_all rfl) (by decide) (by rfl) (by decide) (by rfl) ?_)))
local macro_rules | `(tactic| walk_at "CompSrcTp") => `(tactic| (k_here; k_dflt (refine CompSrcTp.intro (by rfl) (by k_asm) (by k_asm) (by k_mem) (by first | size_fits | exact Nat.le_of_ble_eq_true rfl) ?_; intro g'; lcg_lit)))
local macro_rules | `(tactic| lcg_src) => `(tactic| exact ⟨_, by k_mem, rfl, _, rfl⟩)
local macro_rules | `(tactic| k_mem) => `(tactic| ((repeat' first | exact List.mem_cons_self | assumption | exact updF_mem (by assumption) _ | exact List.mem_append_left _ (by assumption) | refine List.mem_cons_of_mem _ ?_); done))
local macro_rules | `(tactic| walk_at "CompRest") => `(tactic| (with_unfolding_all (refine LCg.CompRest.succ ?_; intro v' I' oI' C' oC' D' m' h' tk' E' hv' hC' hx' F' N' off' ne'; (first | lcg_open hv' | (obtain ⟨t9', hv9'⟩ := hv'; subst hv9')); (have off2' := off'); (try simp only [LCg.Off3, and_true] at off2'))))
local macro_rules | `(tactic| walk_at "CompEnd") => `(tactic| ((rename News _ _ _ _ => nE'); refine LCg.CompEnd.intro (by assumption) nE' _ (by first | exact fun p hp => hp | exact fun p hp => List.mem_cons_of_mem _ hp) (by assumption) (by lcg_src) ?_))
local macro_rules | `(tactic| k_all) => `(tactic| first | exact allLt_ne (by assumption) (by omega) | exact allLt_ne' (by assumption) (by omega))
local macro_rules | `(tactic| walk_at "CompSrc") => `(tactic| (k_here; k_dflt (refine LCg.CompSrc.range (by rfl) (by k_asm) (by k_asm) (by assumption) (by first | decide | rfl) (by first | rfl | decide) (by first | size_fits | exact Nat.le_of_ble_eq_true rfl) ?_; intro g'; lcg_lit)))
local macro_rules | `(tactic| k_upd) => `(tactic| first | exact updF_upd0 (by assumption) _ | exact updF_upd (by assumption) _ _)
local macro_rules | `(tactic| is_list) => `(tactic| exact News.isList (by k_asm) (by k_mem))
local macro_rules | `(tactic| walk_at "call type:tuple") => `(tactic| (k_here; (with_reducible show wpAny _ _ (call (Value.type "tuple") [Value.ref _]) _ _ _); k_dflt (refine call_tuple_same (News.isTup (by k_asm) (by k_mem)) ?_)))
local macro_rules | `(tactic| walk_at "compareOp Eq ref ref") => `(tactic| (k_here; (with_reducible show wpAny _ _ (compareOp CmpOp.Eq (Value.ref _) (Value.ref _)) _ _ _); k_dflt (refine eq_tup2 (by k_asm) (by k_mem) (by k_mem) (by ktr_units) ?_)))
local macro_rules | `(tactic| walk_at "compareOp NotEq ref ref") => `(tactic| (k_here; (with_reducible show wpAny _ _ (compareOp CmpOp.NotEq (Value.ref _) (Value.ref _)) _ _ _); k_dflt (refine ne_tup2 (by k_asm) (by k_mem) (by k_mem) (by ktr_units) ?_)))
local macro_rules | `(tactic| walk_at "pyIter ref") => `(tactic| (k_here; (with_reducible show wpAny _ _ (pyIter (Value.ref _)) (fun it s₂ => PyProof.Rows.LoopAtV _ _ _ _ _ _ _ _ _ it s₂) _ _); refine Halt.of ?_))
local macro_rules | `(tactic| walk_at "eval ListComp") => `(tactic| (k_here; (with_reducible show wpAny _ _ (eval (Expr.ListComp _ [⟨Expr.Tuple _ _ _, _, _, _⟩] _ _) _) _ _ _); k_dflt (refine ListComp_Zip (by k_asm) (by with_unfolding_all rfl) (by decide) (by rfl) (by decide) (by rfl) (by rfl) (by decide) ?_)))
local macro_rules | `(tactic| walk_at "call type:zip") => `(tactic| (k_here; refine Halt.of ?_))
local macro_rules | `(tactic| walk_at "call ref") => `(tactic| (k_here; (with_reducible show wpAny _ _ (call (Value.ref 21) _ _) _ _ _); k_dflt (refine' quality_scale_spec _ _ _ _ _ _ _ _ _ _ _ _ _ _ _ _ _ _ _ _ _ _ _ ?kB ?kF ?kX ?kN ?kT ?kd ?ku ?kR; (case kB => k_asm); (case kF => k_asm); (case kX => k_asm); (case kN => k_asm); (case kT => k_asm); (case kd => ktr_room); (case ku => ktr_units); intro t9 h9 tk9 F9 N9; (try dsimp only); (try k_fold))))
local macro_rules | `(tactic| walk_at "call ref") => `(tactic| (k_here; (with_reducible show wpAny _ _ (call (Value.ref 26) _ _) _ _ _); k_dflt (refine scaled_by_spec _ _ _ _ _ _ _ _ _ _ _ _ _ _ _ _ _ _ _ _ _ _ _ _ _ _ _ _ _ _ _ (by k_asm) (by k_asm) (by k_asm) (by k_asm) (by k_asm) (by ktr_room) (by ktr_units) ⟨by k_mem, by first | assumption | omega, by first | assumption | omega, by first | assumption | exact scale_bounds _ | omega, by first | assumption | omega, ?_⟩; k_whole; intro r9 a9 b9 c9 h9 tk9 F9 N9 l9; (try dsimp only); (try k_fold))))
local macro_rules | `(tactic| walk_at "call ref") => `(tactic| (k_here; (with_reducible show wpAny _ _ (call (Value.ref 33) _ _) _ _ _); k_dflt (refine scaled_table_spec _ _ _ _ _ _ _ _ _ _ _ _ _ _ _ _ _ _ _ _ _ _ _ _ _ _ _ _ _ _ _ (by k_asm) (by k_asm) (by k_asm) (by k_asm) (by k_asm) (by ktr_room) (by ktr_units) ⟨by k_mem, by first | assumption | omega, by first | assumption | omega, by first | assumption | omega, ?_⟩; k_whole; intro r9 a9 b9 c9 h9 tk9 F9 N9 l9; (try dsimp only); (try k_fold))))
local macro_rules | `(tactic| walk_at "call ref") => `(tactic| (k_here; (with_reducible show wpAny _ _ (call (Value.ref 71) _ _) _ _ _); k_dflt (refine law_table_spec _ _ _ _ _ _ _ _ _ _ _ _ _ _ _ _ _ _ _ _ _ _ _ _ _ _ _ _ _ _ _ (by k_asm) (by k_asm) (by k_asm) (by k_asm) (by k_asm) (by ktr_room) (by ktr_units) ⟨by k_mem, by first | assumption | omega, by first | assumption | omega, by first | assumption | omega, by first | assumption | omega, ?_⟩; k_whole; intro r9 a9 b9 c9 h9 tk9 F9 N9 l9; (try dsimp only); (try k_fold))))
local macro_rules | `(tactic| walk_at "call ref") => `(tactic| (k_here; (with_reducible show wpAny _ _ (call (Value.ref 45) _ _) _ _ _); k_dflt (refine distance_spec _ _ _ _ _ _ _ _ _ _ _ _ _ _ _ _ _ _ _ _ _ _ _ _ _ _ _ _ _ _ _ _ _ (by k_asm) (by k_asm) (by k_asm) (by k_asm) (by k_asm) (by ktr_room) (by ktr_units) ⟨by k_mem, by k_mem, ?_⟩; k_whole; intro t9 h9 tk9 F9 N9; (try dsimp only); (try k_fold))))
local macro_rules | `(tactic| walk_at "call ref") => `(tactic| (k_here; (with_reducible show wpAny _ _ (call (Value.ref 76) _ _) _ _ _); k_dflt (refine law_gap_spec _ _ _ _ _ _ _ _ _ _ _ _ _ _ _ _ _ _ _ _ _ _ _ _ _ _ _ _ _ _ _ _ _ (by k_asm) (by k_asm) (by k_asm) (by k_asm) (by k_asm) (by ktr_room) (by ktr_units) ⟨by k_mem, by k_mem, ?_⟩; k_whole; intro t9 h9 tk9 F9 N9; (try dsimp only); (try k_fold))))
local macro_rules | `(tactic| walk_at "call ref") => `(tactic| (k_here; (with_reducible show wpAny _ _ (call (Value.ref 40) _ _) _ _ _); refine Halt.of ?_))
local macro_rules | `(tactic| walk_at "call ref") => `(tactic| (k_here; (with_reducible show wpAny _ _ (call (Value.ref 52) _ _) _ _ _); refine Halt.of ?_))
local macro_rules | `(tactic| walk_at "CompSrcT") => `(tactic| (k_here; refine Halt.of ?_))

theorem Among.ints {lo : Int} : ∀ {vs : List Value}, Among lo vs → ∃ ns : List Int, IntsAre vs ns ∧ ∀ k ∈ ns, lo < k ∧ k ≤ 100
  | [], _ => ⟨[], IntsAre.nil, fun _ h => nomatch h⟩
  | v :: r, h => by
    obtain ⟨k, t, rfl, h1, h2⟩ := h v List.mem_cons_self
    obtain ⟨ns, hi, hn⟩ := Among.ints (vs := r) fun w hw => h w (List.mem_cons_of_mem _ hw)
    exact ⟨k :: ns, IntsAre.cons _ _ hi, fun j hj => by
      rcases List.mem_cons.mp hj with rfl | hj
      · exact ⟨h1, h2⟩
      · exact hn j hj⟩

theorem nearest_right_spec {w : World} {p : Program} {loose : List Str} {mean : ExcName → Option Value} {mg mb : Str → Option Value} (tb tq sp : Addr) (x y mo u v q : Int) (vs : List Value) (tx ty tm tu tv tk0 : Tok) (c d e : Nat) :
    Spot w p loose mean mg mb 16 (fun news h₀ L m s Q => (tb, tup2 x y tx ty c) ∈ news ∧ (tq, tup2 u v tu tv d) ∈ news ∧ (sp, lstOf vs e) ∈ news ∧ Okd x ∧ Okd y ∧ Okd mo ∧ Among 0 vs ∧
      (∀ (h' : Heap) (tk' : Nat), Fr h₀ L h' m → News h₀ L h' news → Q (.bool true) { s with heap := h', toks := tk' })) 88 [.ref tb, .int mo tm, .ref tq, .int q tk0, .ref sp] := by
  unfold Spot; k_fill
  intro dp un gd cn kn g1 g2 mo' a ccd cl outer A₀ base h₀ L m news s Q E B F X N T hdp hun ⟨hT, hT2, hT3, hx, hy, hmo, hvs, hret⟩
  obtain ⟨ns, hIA, hns⟩ := hvs.ints
  refine wpAny_call ?_
  k_dflt k_enter
  k_steps
  unfold Halt
  k_dflt (refine nearest_quality_spec _ _ _ _ _ _ _ _ _ _ _ _ _ _ _ _ _ _ _ _ _ _ _ _ _ _ _ _ _ _ _ _ _ _ _ (by k_asm) (by k_asm) (by k_asm) (by k_asm) (by k_asm) (by ktr_room) (by ktr_units) ⟨by k_mem, by k_mem, hx, hy, hmo, ?_⟩)
  intro k9 t9 h9 tk9 hb F9 N9
  have hq8 : 1 ≤ k9 ∧ k9 ≤ 100 := ⟨hb.1, hb.2.1⟩
  try k_fold
  k_steps
  unfold Halt
  rename Fr _ _ _ _ => lF'
  rename News _ _ _ _ => lN'
  with_unfolding_all refine' kst_listL (l := sp) (vs := vs) (ns := ns) (nn := e) (fun _ : Unit => news) (fun _ => []) (fun _ => True) [Str.ofString "other"] (fun _ _ => True) () (by rfl) (fun _ => hT3) (by assumption) lF' (cb_drop lN' (fun p hp => by simp [hp])) True.intro (fun _ h => nomatch h) True.intro ?_ ?_
  · intro kC kPre kPost kN kT kU kH kTk kOwn kEq kMem kOff kFacts kInv kFr kNews
    have hkn := hns kN kMem
    have hq9 : 1 ≤ kN ∧ kN ≤ 100 := ⟨hkn.1, hkn.2⟩
    have hbk := hb.2.2 kN hkn.1 hkn.2
    unfold Gap at hbk
    dsimp only [kstB] at kFr
    try k_fold
    k_steps
  · intro kC kU kH kTk kFacts kInv kFr kNews
    dsimp only [kstB] at kFr
    try k_fold
    k_steps
    exact hret _ _ (by k_asm) (by k_asm)
end Mine
/- C13 -/
namespace Mine
open PyProof.Rows.LCg
local macro_rules | `(tactic| k_room) => `(tactic| ktr_room)
local macro_rules | `(tactic| walk_at "eval ListComp") => `(tactic| (k_here; (first | (with_reducible show wpAny _ _ (eval (Expr.ListComp _ [⟨_, Expr.Name (Str.ofString "qtable") _, _, _⟩] _ _) _) _ _ _) | (with_reducible show wpAny _ _ (eval (Expr.ListComp _ [⟨_, Expr.Name (Str.ofString "base") _, _, _⟩] _ _) _) _ _ _)); k_dflt (refine ListComp_Tup (F₀ := by k_asm) (by with_unfolding_all rfl) (by decide) (by rfl) (by decide) (by rfl) ?_)))
local macro_rules | `(tactic| walk_at "CompSrcTp") => `(tactic| (k_here; k_dflt (refine CompSrcTp.intro (by rfl) (by k_asm) (by k_asm) (by k_mem) (by first | size_fits | exact Nat.le_of_ble_eq_true rfl) ?_; intro g'; lcg_lit)))
local macro_rules | `(tactic| lcg_src) => `(tactic| exact ⟨_, by k_mem, rfl, _, rfl⟩)
local macro_rules | `(tactic| k_mem) => `(tactic| ((repeat' first | exact List.mem_cons_self | assumption | exact updF_mem (by assumption) _ | exact List.mem_append_left _ (by assumption) | refine List.mem_cons_of_mem _ ?_); done))
local macro_rules | `(tactic| walk_at "CompRest") => `(tactic| (with_unfolding_all (refine LCg.CompRest.succ ?_; intro v' I' oI' C' oC' D' m' h' tk' E' hv' hC' hx' F' N' off' ne'; (first | lcg_open hv' | (obtain ⟨t9', hv9'⟩ := hv'; subst hv9')); (have off2' := off'); (try simp only [LCg.Off3, and_true] at off2'))))
local macro_rules | `(tactic| walk_at "CompEnd") => `(tactic| ((rename News _ _ _ _ => nE'); refine LCg.CompEnd.intro (by assumption) nE' _ (by first | exact fun p hp => hp | exact fun p hp => List.mem_cons_of_mem _ hp) (by assumption) (by lcg_src) ?_))
local macro_rules | `(tactic| k_all) => `(tactic| first | exact allLt_ne (by assumption) (by omega) | exact allLt_ne' (by assumption) (by omega))
local macro_rules | `(tactic| walk_at "CompSrc") => `(tactic| (k_here; k_dflt (refine LCg.CompSrc.range (by rfl) (by k_asm) (by k_asm) (by assumption) (by first | decide | rfl) (by first | rfl | decide) (by first | size_fits | exact Nat.le_of_ble_eq_true rfl) ?_; intro g'; lcg_lit)))
local macro_rules | `(tactic| k_upd) => `(tactic| first | exact updF_upd0 (by assumption) _ | exact updF_upd (by assumption) _ _)
local macro_rules | `(tactic| is_list) => `(tactic| exact News.isList (by k_asm) (by k_mem))
local macro_rules | `(tactic| walk_at "call type:tuple") => `(tactic| (k_here; (with_reducible show wpAny _ _ (call (Value.type "tuple") [Value.ref _]) _ _ _); k_dflt (refine call_tuple_same (News.isTup (by k_asm) (by k_mem)) ?_)))
local macro_rules | `(tactic| walk_at "compareOp Eq ref ref") => `(tactic| (k_here; (with_reducible show wpAny _ _ (compareOp CmpOp.Eq (Value.ref _) (Value.ref _)) _ _ _); k_dflt (refine eq_tup2 (by k_asm) (by k_mem) (by k_mem) (by ktr_units) ?_)))
local macro_rules | `(tactic| walk_at "compareOp NotEq ref ref") => `(tactic| (k_here; (with_reducible show wpAny _ _ (compareOp CmpOp.NotEq (Value.ref _) (Value.ref _)) _ _ _); k_dflt (refine ne_tup2 (by k_asm) (by k_mem) (by k_mem) (by ktr_units) ?_)))
local macro_rules | `(tactic| walk_at "pyIter ref") => `(tactic| (k_here; (with_reducible show wpAny _ _ (pyIter (Value.ref _)) (fun it s₂ => PyProof.Rows.LoopAtV _ _ _ _ _ _ _ _ _ it s₂) _ _); refine Halt.of ?_))
local macro_rules | `(tactic| walk_at "eval ListComp") => `(tactic| (k_here; (with_reducible show wpAny _ _ (eval (Expr.ListComp _ [⟨Expr.Tuple _ _ _, _, _, _⟩] _ _) _) _ _ _); k_dflt (refine ListComp_Zip (by k_asm) (by with_unfolding_all rfl) (by decide) (by rfl) (by decide) (by rfl) (by rfl) (by decide) ?_)))
local macro_rules | `(tactic| walk_at "call type:zip") => `(tactic| (k_here; refine Halt.of ?_))
local macro_rules | `(tactic| walk_at "subscriptTail") => `(tactic| (k_here; (with_reducible show wpAny _ _ (subscriptTail (Expr.List _ _) _ (Value.ref _) (Value.int _ _)) _ _ _); (with_unfolding_all refine item_menu (by is_list) (by omega) (by simp only [List.length_cons, List.length_nil]; omega) (by simp only [List.length_cons, List.length_nil]; omega) (by (repeat' first | exact List.forall_mem_nil _ | refine List.forall_mem_cons.mpr ⟨⟨_, _, rfl, by decide⟩, ?_⟩); done) ?_); intro i9 t9 hi9))
local macro_rules | `(tactic| walk_at "call ref") => `(tactic| (k_here; (with_reducible show wpAny _ _ (call (Value.ref 21) _ _) _ _ _); k_dflt (refine' quality_scale_spec _ _ _ _ _ _ _ _ _ _ _ _ _ _ _ _ _ _ _ _ _ _ _ ?kB ?kF ?kX ?kN ?kT ?kd ?ku ?kR; (case kB => k_asm); (case kF => k_asm); (case kX => k_asm); (case kN => k_asm); (case kT => k_asm); (case kd => ktr_room); (case ku => ktr_units); intro t9 h9 tk9 F9 N9; (try dsimp only); (try k_fold))))
local macro_rules | `(tactic| walk_at "call ref") => `(tactic| (k_here; (with_reducible show wpAny _ _ (call (Value.ref 26) _ _) _ _ _); k_dflt (refine scaled_by_spec _ _ _ _ _ _ _ _ _ _ _ _ _ _ _ _ _ _ _ _ _ _ _ _ _ _ _ _ _ _ _ (by k_asm) (by k_asm) (by k_asm) (by k_asm) (by k_asm) (by ktr_room) (by ktr_units) ⟨by k_mem, by first | assumption | omega, by first | assumption | omega, by first | assumption | exact scale_bounds _ | omega, by first | assumption | omega, ?_⟩; k_whole; intro r9 a9 b9 c9 h9 tk9 F9 N9 l9; (have l8 := l9; (try simp only [AllLt, and_true] at l8)); (try dsimp only); (try k_fold))))
local macro_rules | `(tactic| walk_at "call ref") => `(tactic| (k_here; (with_reducible show wpAny _ _ (call (Value.ref 33) _ _) _ _ _); k_dflt (refine scaled_table_spec _ _ _ _ _ _ _ _ _ _ _ _ _ _ _ _ _ _ _ _ _ _ _ _ _ _ _ _ _ _ _ (by k_asm) (by k_asm) (by k_asm) (by k_asm) (by k_asm) (by ktr_room) (by ktr_units) ⟨by k_mem, by first | assumption | omega, by first | assumption | omega, by first | assumption | omega, ?_⟩; k_whole; intro r9 a9 b9 c9 h9 tk9 F9 N9 l9; (have l8 := l9; (try simp only [AllLt, and_true] at l8)); (try dsimp only); (try k_fold))))
local macro_rules | `(tactic| walk_at "call ref") => `(tactic| (k_here; (with_reducible show wpAny _ _ (call (Value.ref 71) _ _) _ _ _); k_dflt (refine law_table_spec _ _ _ _ _ _ _ _ _ _ _ _ _ _ _ _ _ _ _ _ _ _ _ _ _ _ _ _ _ _ _ (by k_asm) (by k_asm) (by k_asm) (by k_asm) (by k_asm) (by ktr_room) (by ktr_units) ⟨by k_mem, by first | assumption | omega, by first | assumption | omega, by first | assumption | omega, by first | assumption | omega, ?_⟩; k_whole; intro r9 a9 b9 c9 h9 tk9 F9 N9 l9; (have l8 := l9; (try simp only [AllLt, and_true] at l8)); (try dsimp only); (try k_fold))))
local macro_rules | `(tactic| walk_at "call ref") => `(tactic| (k_here; (with_reducible show wpAny _ _ (call (Value.ref 45) _ _) _ _ _); k_dflt (refine distance_spec _ _ _ _ _ _ _ _ _ _ _ _ _ _ _ _ _ _ _ _ _ _ _ _ _ _ _ _ _ _ _ _ _ (by k_asm) (by k_asm) (by k_asm) (by k_asm) (by k_asm) (by ktr_room) (by ktr_units) ⟨by k_mem, by k_mem, ?_⟩; k_whole; intro t9 h9 tk9 F9 N9; (try dsimp only); (try k_fold))))
local macro_rules | `(tactic| walk_at "call ref") => `(tactic| (k_here; (with_reducible show wpAny _ _ (call (Value.ref 76) _ _) _ _ _); k_dflt (refine law_gap_spec _ _ _ _ _ _ _ _ _ _ _ _ _ _ _ _ _ _ _ _ _ _ _ _ _ _ _ _ _ _ _ _ _ (by k_asm) (by k_asm) (by k_asm) (by k_asm) (by k_asm) (by ktr_room) (by ktr_units) ⟨by k_mem, by k_mem, ?_⟩; k_whole; intro t9 h9 tk9 F9 N9; (try dsimp only); (try k_fold))))
local macro_rules | `(tactic| walk_at "call ref") => `(tactic| (k_here; (with_reducible show wpAny _ _ (call (Value.ref 40) _ _) _ _ _); refine Halt.of ?_))
local macro_rules | `(tactic| walk_at "call ref") => `(tactic| (k_here; (with_reducible show wpAny _ _ (call (Value.ref 52) _ _) _ _ _); refine Halt.of ?_))
local macro_rules | `(tactic| walk_at "CompSrcT") => `(tactic| (k_here; refine Halt.of ?_))
local macro_rules | `(tactic| walk_at "call ref") => `(tactic| (k_here; (with_reducible show wpAny _ _ (call (Value.ref 66) _ _) _ _ _); k_dflt (refine law_take_spec _ _ _ _ _ _ _ _ _ _ _ _ _ _ _ _ _ _ _ _ _ _ _ _ _ _ _ _ _ _ (by k_asm) (by k_asm) (by k_asm) (by k_asm) (by k_asm) (by ktr_room) (by ktr_units) ⟨by k_updF, by assumption, by first | decide | omega | l_fact, ?_⟩; k_whole; intro d9 x9 y9 td9 tx9 ty9 c9 h9 tk9 hd9 hd8 hs9 F9 N9; (try dsimp only at N9); (try dsimp only); (try k_sweep); (try k_fold))))
local macro_rules | `(tactic| walk_at "call ref") => `(tactic| (k_here; (first | (with_reducible show wpAny _ _ (call (Value.ref 81) _ _) _ _ _) | (with_reducible show wpAny _ _ (call (Value.ref 88) _ _) _ _ _)); refine Halt.of ?_))
local macro_rules | `(tactic| walk_at "exec If") => `(tactic| (k_here; (with_reducible show wpAny _ _ (exec (Stmt.If _ _ _ _) _) _ _ _); refine Halt.of ?_))

theorem split1 {prog : Program} {w : World} {A : Around} {E : Value → Shared → Prop} {s : Shared} {h₀ : Heap} {L : Addr} {m : Str → Option Value} {env : Env} {st : Stmt} {Q : Flow → Shared → Prop} {C sp : Addr} {oC o0 : Obj}
    (hF : Fr h₀ L s.heap m) (hN : News h₀ L s.heap [(C, oC), (sp, o0)])
    (h1 : wpAny (model prog w) A (exec st env) (fun f s' => Halt (f = Flow.next ∧ ∃ (Bt : Addr) (u : Int) (v : Int) (tu : Tok) (tv : Tok) (n : Nat) (x : Int) (y : Int) (tx : Tok) (ty : Tok) (k : Nat) (h' : Heap) (tk' : Nat), s' = { s with heap := h', toks := tk' } ∧ Fr h₀ L h' (fun z => if z = Str.ofString "base" then some (.ref Bt) else m z) ∧ News h₀ L h' [(Bt, tup2 u v tu tv n), (C, oC), (sp, src2 x y tx ty k)] ∧ (Okd u ∧ Okd v ∧ Oks x y ∧ @LT.lt Nat _ C Bt ∧ @LT.lt Nat _ sp Bt))) E s)
    (h2 : ∀ (Bt : Addr) (u : Int) (v : Int) (tu : Tok) (tv : Tok) (n : Nat) (x : Int) (y : Int) (tx : Tok) (ty : Tok) (k : Nat) (h' : Heap) (tk' : Nat), Fr h₀ L h' (fun z => if z = Str.ofString "base" then some (.ref Bt) else m z) → News h₀ L h' [(Bt, tup2 u v tu tv n), (C, oC), (sp, src2 x y tx ty k)] → (Okd u ∧ Okd v ∧ Oks x y ∧ @LT.lt Nat _ C Bt ∧ @LT.lt Nat _ sp Bt) → Q .next { s with heap := h', toks := tk' }) :
    wpAny (model prog w) A (exec st env) Q E s := by
  refine wpAny_mono h1 (fun f s' h => ?_) fun _ _ e => e
  obtain ⟨rfl, Bt, u, v, tu, tv, n, x, y, tx, ty, k, h', tk', rfl, F', N', hok⟩ := h
  exact h2 _ _ _ _ _ _ _ _ _ _ _ _ _ F' N' hok

theorem split2 {prog : Program} {w : World} {A : Around} {E : Value → Shared → Prop} {s : Shared} {h₀ : Heap} {L : Addr} {m : Str → Option Value} {env : Env} {st : Stmt} {Q : Flow → Shared → Prop} {C sp : Addr} {oC o0 : Obj} {Bt : Addr} {oB : Obj}
    (hF : Fr h₀ L s.heap m) (hN : News h₀ L s.heap [(Bt, oB), (C, oC), (sp, o0)])
    (h1 : wpAny (model prog w) A (exec st env) (fun f s' => Halt (f = Flow.next ∧ ∃ (mo : Int) (q : Int) (tm : Tok) (tq : Tok) (x : Int) (y : Int) (tx : Tok) (ty : Tok) (k : Nat) (h' : Heap) (tk' : Nat), s' = { s with heap := h', toks := tk' } ∧ Fr h₀ L h' (fun z => if z = Str.ofString "most" then some (.int mo tm) else if z = Str.ofString "quality" then some (.int q tq) else m z) ∧ News h₀ L h' [(Bt, oB), (C, oC), (sp, src2 x y tx ty k)] ∧ (Okd mo ∧ (1 ≤ q ∧ q ≤ 100) ∧ Oks x y))) E s)
    (h2 : ∀ (mo : Int) (q : Int) (tm : Tok) (tq : Tok) (x : Int) (y : Int) (tx : Tok) (ty : Tok) (k : Nat) (h' : Heap) (tk' : Nat), Fr h₀ L h' (fun z => if z = Str.ofString "most" then some (.int mo tm) else if z = Str.ofString "quality" then some (.int q tq) else m z) → News h₀ L h' [(Bt, oB), (C, oC), (sp, src2 x y tx ty k)] → (Okd mo ∧ (1 ≤ q ∧ q ≤ 100) ∧ Oks x y) → Q .next { s with heap := h', toks := tk' }) :
    wpAny (model prog w) A (exec st env) Q E s := by
  refine wpAny_mono h1 (fun f s' h => ?_) fun _ _ e => e
  obtain ⟨rfl, mo, q, tm, tq, x, y, tx, ty, k, h', tk', rfl, F', N', hok⟩ := h
  exact h2 _ _ _ _ _ _ _ _ _ _ _ F' N' hok

theorem split3 {prog : Program} {w : World} {A : Around} {E : Value → Shared → Prop} {s : Shared} {h₀ : Heap} {L : Addr} {m : Str → Option Value} {env : Env} {st : Stmt} {Q : Flow → Shared → Prop} {C sp : Addr} {oC o0 : Obj} {Bt : Addr} {oB : Obj}
    (hF : Fr h₀ L s.heap m) (hN : News h₀ L s.heap [(Bt, oB), (C, oC), (sp, o0)])
    (h1 : wpAny (model prog w) A (exec st env) (fun f s' => Halt (f = Flow.next ∧ ∃ (Tl : Addr) (a : Int) (b : Int) (ta : Tok) (tb : Tok) (n : Nat) (h' : Heap) (tk' : Nat), s' = { s with heap := h', toks := tk' } ∧ Fr h₀ L h' (fun z => if z = Str.ofString "table" then some (.ref Tl) else m z) ∧ News h₀ L h' [(Tl, src2 a b ta tb n), (Bt, oB), (C, oC), (sp, o0)] ∧ (@LT.lt Nat _ Bt Tl ∧ @LT.lt Nat _ C Tl ∧ @LT.lt Nat _ sp Tl))) E s)
    (h2 : ∀ (Tl : Addr) (a : Int) (b : Int) (ta : Tok) (tb : Tok) (n : Nat) (h' : Heap) (tk' : Nat), Fr h₀ L h' (fun z => if z = Str.ofString "table" then some (.ref Tl) else m z) → News h₀ L h' [(Tl, src2 a b ta tb n), (Bt, oB), (C, oC), (sp, o0)] → (@LT.lt Nat _ Bt Tl ∧ @LT.lt Nat _ C Tl ∧ @LT.lt Nat _ sp Tl) → Q .next { s with heap := h', toks := tk' }) :
    wpAny (model prog w) A (exec st env) Q E s := by
  refine wpAny_mono h1 (fun f s' h => ?_) fun _ _ e => e
  obtain ⟨rfl, Tl, a, b, ta, tb, n, h', tk', rfl, F', N', hok⟩ := h
  exact h2 _ _ _ _ _ _ _ _ F' N' hok

theorem split4 {prog : Program} {w : World} {A : Around} {E : Value → Shared → Prop} {s : Shared} {h₀ : Heap} {L : Addr} {m : Str → Option Value} {env : Env} {st : Stmt} {Q : Flow → Shared → Prop} {C sp : Addr} {oC o0 : Obj} {Bt : Addr} {oB : Obj} {Tl : Addr} {oT : Obj}
    (hF : Fr h₀ L s.heap m) (hN : News h₀ L s.heap [(Tl, oT), (Bt, oB), (C, oC), (sp, o0)])
    (h1 : wpAny (model prog w) A (exec st env) (fun f s' => Halt (f = Flow.next ∧ ∃ (a : Int) (b : Int) (ta : Tok) (tb : Tok) (n : Nat) (vat : Str → Option Value) (x : Int) (y : Int) (tx : Tok) (ty : Tok) (k : Nat) (h' : Heap) (tk' : Nat), s' = { s with heap := h', toks := tk' } ∧ Fr h₀ L h' (fun z => if z = Str.ofString "at" then vat z else m z) ∧ News h₀ L h' [(Tl, src2 a b ta tb n), (Bt, oB), (C, oC), (sp, src2 x y tx ty k)] ∧ Oks x y)) E s)
    (h2 : ∀ (a : Int) (b : Int) (ta : Tok) (tb : Tok) (n : Nat) (vat : Str → Option Value) (x : Int) (y : Int) (tx : Tok) (ty : Tok) (k : Nat) (h' : Heap) (tk' : Nat), Fr h₀ L h' (fun z => if z = Str.ofString "at" then vat z else m z) → News h₀ L h' [(Tl, src2 a b ta tb n), (Bt, oB), (C, oC), (sp, src2 x y tx ty k)] → Oks x y → Q .next { s with heap := h', toks := tk' }) :
    wpAny (model prog w) A (exec st env) Q E s := by
  refine wpAny_mono h1 (fun f s' h => ?_) fun _ _ e => e
  obtain ⟨rfl, a, b, ta, tb, n, vat, x, y, tx, ty, k, h', tk', rfl, F', N', hok⟩ := h
  exact h2 _ _ _ _ _ _ _ _ _ _ _ _ _ F' N' hok

theorem split5 {prog : Program} {w : World} {A : Around} {E : Value → Shared → Prop} {s : Shared} {h₀ : Heap} {L : Addr} {m : Str → Option Value} {env : Env} {st : Stmt} {Q : Flow → Shared → Prop} {C sp : Addr} {oC o0 : Obj} {Bt : Addr} {oB : Obj} {Tl : Addr} {oT : Obj}
    (hF : Fr h₀ L s.heap m) (hN : News h₀ L s.heap [(Tl, oT), (Bt, oB), (C, oC), (sp, o0)])
    (h1 : wpAny (model prog w) A (exec st env) (fun f s' => Halt (f = Flow.next ∧ ∃ (Tt : Addr) (a : Int) (b : Int) (ta : Tok) (tb : Tok) (n : Nat) (h' : Heap) (tk' : Nat), s' = { s with heap := h', toks := tk' } ∧ Fr h₀ L h' (fun z => if z = Str.ofString "table" then some (.ref Tt) else m z) ∧ News h₀ L h' [(Tt, tup2 a b ta tb n), (Bt, oB), (C, oC), (sp, o0)] ∧ (@LT.lt Nat _ Bt Tt ∧ @LT.lt Nat _ C Tt ∧ @LT.lt Nat _ sp Tt))) E s)
    (h2 : ∀ (Tt : Addr) (a : Int) (b : Int) (ta : Tok) (tb : Tok) (n : Nat) (h' : Heap) (tk' : Nat), Fr h₀ L h' (fun z => if z = Str.ofString "table" then some (.ref Tt) else m z) → News h₀ L h' [(Tt, tup2 a b ta tb n), (Bt, oB), (C, oC), (sp, o0)] → (@LT.lt Nat _ Bt Tt ∧ @LT.lt Nat _ C Tt ∧ @LT.lt Nat _ sp Tt) → Q .next { s with heap := h', toks := tk' }) :
    wpAny (model prog w) A (exec st env) Q E s := by
  refine wpAny_mono h1 (fun f s' h => ?_) fun _ _ e => e
  obtain ⟨rfl, Tt, a, b, ta, tb, n, h', tk', rfl, F', N', hok⟩ := h
  exact h2 _ _ _ _ _ _ _ _ F' N' hok

theorem split6 {prog : Program} {w : World} {A : Around} {E : Value → Shared → Prop} {s : Shared} {h₀ : Heap} {L : Addr} {m : Str → Option Value} {env : Env} {st : Stmt} {Q : Flow → Shared → Prop} {C sp : Addr} {oC o0 : Obj} {Bt : Addr} {oB : Obj} {Tl : Addr} {oT : Obj}
    (hF : Fr h₀ L s.heap m) (hN : News h₀ L s.heap [(Tl, oT), (Bt, oB), (C, oC), (sp, o0)])
    (h1 : wpAny (model prog w) A (exec st env) (fun f s' => Halt (f = Flow.next ∧ ∃ (Sl : Addr) (vs : List Value) (e : Nat) (x : Int) (y : Int) (tx : Tok) (ty : Tok) (k : Nat) (h' : Heap) (tk' : Nat), s' = { s with heap := h', toks := tk' } ∧ Fr h₀ L h' (fun z => if z = Str.ofString "some" then some (.ref Sl) else m z) ∧ News h₀ L h' [(Sl, lstOf vs e), (Tl, oT), (Bt, oB), (C, oC), (sp, src2 x y tx ty k)] ∧ (Oks x y ∧ Among 0 vs ∧ vs.length ≤ 64 ∧ @LT.lt Nat _ Tl Sl ∧ @LT.lt Nat _ Bt Sl ∧ @LT.lt Nat _ C Sl ∧ @LT.lt Nat _ sp Sl))) E s)
    (h2 : ∀ (Sl : Addr) (vs : List Value) (e : Nat) (x : Int) (y : Int) (tx : Tok) (ty : Tok) (k : Nat) (h' : Heap) (tk' : Nat), Fr h₀ L h' (fun z => if z = Str.ofString "some" then some (.ref Sl) else m z) → News h₀ L h' [(Sl, lstOf vs e), (Tl, oT), (Bt, oB), (C, oC), (sp, src2 x y tx ty k)] → (Oks x y ∧ Among 0 vs ∧ vs.length ≤ 64 ∧ @LT.lt Nat _ Tl Sl ∧ @LT.lt Nat _ Bt Sl ∧ @LT.lt Nat _ C Sl ∧ @LT.lt Nat _ sp Sl) → Q .next { s with heap := h', toks := tk' }) :
    wpAny (model prog w) A (exec st env) Q E s := by
  refine wpAny_mono h1 (fun f s' h => ?_) fun _ _ e => e
  obtain ⟨rfl, Sl, vs, e, x, y, tx, ty, k, h', tk', rfl, F', N', hok⟩ := h
  exact h2 _ _ _ _ _ _ _ _ _ _ F' N' hok

theorem fr_same {h₀ h : Heap} {L : Addr} {m : Str → Option Value} {x : Str} (F : Fr h₀ L h m) : Fr h₀ L h (fun z => if z = x then m z else m z) := by
  have e : (fun z => if z = x then m z else m z) = m := funext fun z => by split <;> rfl
  rw [e]; exact F
theorem mem1 {α : Type} {a : α} {l : List α} (h : a ∈ l) : ∀ p ∈ [a], p ∈ l := List.forall_mem_cons.mpr ⟨h, List.forall_mem_nil _⟩
theorem mem2 {α : Type} {a : α} {r l : List α} (h : a ∈ l) (hr : ∀ p ∈ r, p ∈ l) : ∀ p ∈ a :: r, p ∈ l := List.forall_mem_cons.mpr ⟨h, hr⟩

theorem estimates_right_spec {w : World} {p : Program} {loose : List Str} {mean : ExcName → Option Value} {mg mb : Str → Option Value} (sp : Addr) (x y : Int) (tx ty : Tok) (c : Nat) :
    Spot w p loose mean mg mb 24 (fun news h₀ L m s Q => news = [(sp, src2 x y tx ty c)] ∧ Oks x y ∧
      (∀ (h' : Heap) (tk' : Nat), Fr h₀ L h' m → Q (.bool true) { s with heap := h', toks := tk' })) 93 [.ref sp] := by
  unfold Spot; k_fill
  intro dp un gd cn kn g1 g2 mo' a ccd cl outer A₀ base h₀ L m news s Q E B F X N T hdp hun ⟨hnews, hs0, hret⟩
  subst hnews
  refine wpAny_call ?_
  k_dflt k_enter
  refine wpAny_execs_cons ?_
  k_dflt (refine split1 (by k_asm) (by k_asm) ?_ ?_)
  · k_steps
    refine ⟨by first | exact trivial | rfl, _, _, _, _, _, _, _, _, _, _, _, _, _, rfl, by k_asm, cb_drop (by assumption) (mem2 (by k_mem) (mem2 (by k_mem) (mem1 (by k_mem)))), ⟨by omega, by omega⟩, ⟨by omega, by omega⟩, by assumption, by omega, by omega⟩
  intro Bt u v tu tv nB x1 y1 tx1 ty1 k1 h1 tk1 F1 N1 ⟨hu, hv, hs1, hd1, hd2⟩
  clear N F
  try dsimp only
  refine wpAny_execs_cons ?_
  k_dflt (refine split2 F1 N1 ?_ ?_)
  · k_steps
    refine ⟨by first | exact trivial | rfl, _, _, _, _, _, _, _, _, _, _, _, rfl, by k_asm, cb_drop (by assumption) (mem2 (by k_mem) (mem2 (by k_mem) (mem1 (by k_mem)))), ⟨by omega, by omega⟩, ⟨by omega, by omega⟩, by assumption⟩
  clear F1 N1 hs1
  intro mo q tm tq x2 y2 tx2 ty2 k2 h2 tk2 F2 N2 ⟨hmo, hq, hs2⟩
  try dsimp only
  refine wpAny_execs_cons ?_
  k_dflt (refine split3 F2 N2 ?_ ?_)
  · k_steps
    refine ⟨by first | exact trivial | rfl, _, _, _, _, _, _, _, _, rfl, by k_asm, cb_drop (by assumption) (mem2 (by k_mem) (mem2 (by k_mem) (mem2 (by k_mem) (mem1 (by k_mem))))), by omega, by omega, by omega⟩
  clear F2 N2
  intro Tl ta1 ta2 tta ttb nT h3 tk3 F3 N3 ⟨hd3, hd4, hd5⟩
  try dsimp only
  refine wpAny_execs_cons ?_
  k_dflt (refine split4 F3 N3 ?_ ?_)
  · refine wpAny_If ?_
    k_steps
    · refine ⟨by first | exact trivial | rfl, _, _, _, _, _, _, _, _, _, _, _, _, _, rfl, by k_asm, cb_drop (by assumption) (mem2 (by k_mem) (mem2 (by k_mem) (mem2 (by k_mem) (mem1 (by k_mem))))), by assumption⟩
    · refine ⟨by first | exact trivial | rfl, _, _, _, _, _, _, _, _, _, _, _, _, _, rfl, fr_same (by k_asm), cb_drop (by assumption) (mem2 (by k_mem) (mem2 (by k_mem) (mem2 (by k_mem) (mem1 (by k_mem))))), by assumption⟩
  clear F3 N3 hs2
  intro a4 b4 ta4 tb4 n4 vat x4 y4 tx4 ty4 k4 h4 tk4 F4 N4 hs4
  try dsimp only
  refine wpAny_execs_cons ?_
  k_dflt (refine split5 F4 N4 ?_ ?_)
  · k_steps
    refine ⟨by first | exact trivial | rfl, _, _, _, _, _, _, _, _, rfl, by k_asm, cb_drop (by assumption) (mem2 (by k_mem) (mem2 (by k_mem) (mem2 (by k_mem) (mem1 (by k_mem))))), by omega, by omega, by omega⟩
  clear F4 N4
  intro Tt a5 b5 ta5 tb5 n5 h5 tk5 F5 N5 ⟨hd6, hd7, hd8⟩
  try dsimp only
  refine wpAny_execs_cons ?_
  k_dflt (refine split6 F5 N5 ?_ ?_)
  · k_steps
    refine ⟨by first | exact trivial | rfl, _, _, _, _, _, _, _, _, _, _, rfl, by k_asm, cb_drop (by assumption) (mem2 (by k_mem) (mem2 (by k_mem) (mem2 (by k_mem) (mem2 (by k_mem) (mem1 (by k_mem)))))), by assumption, ?_, by exact Nat.le_of_ble_eq_true rfl, by omega, by omega, by omega, by omega⟩
    (repeat' first | exact List.forall_mem_nil _ | refine List.forall_mem_cons.mpr ⟨⟨_, _, rfl, ?_, ?_⟩, ?_⟩) <;> first | omega | (split <;> omega)
  clear F5 N5 hs4
  intro Sl vs e x6 y6 tx6 ty6 k6 h6 tk6 F6 N6 ⟨hs6, hvs, hlen, hd9, hd10, hd11, hd12⟩
  try dsimp only
  refine wpAny_execs_cons ?_
  refine wpAny_If ?_
  k_steps
  · exact absurd rfl (by assumption)
  unfold Halt
  refine wpAny_If ?_
  k_steps
  rotate_left
  · rename ¬ (_ ∧ _) => q9
    exact absurd ⟨rfl, rfl⟩ q9
  unfold Halt
  refine wpAny_If ?_
  k_steps
  · unfold Halt
    k_dflt (refine told_right_spec _ _ _ _ _ _ _ _ _ _ _ _ _ _ _ _ _ _ _ _ _ _ _ _ _ _ _ _ _ _ _ _ _ _ _ _ _ _ _ _ (by k_asm) (by k_asm) (by k_asm) (by k_asm) (by k_asm) (by ktr_room) (by ktr_units) ⟨by k_mem, by k_mem, by k_mem, hu, hv, hmo, hq, hvs, hlen, ?_⟩)
    intro h9 tk9 F9 N9
    try dsimp only
    try k_fold
    k_steps
    exact hret _ _ (by k_asm)
  · unfold Halt
    k_dflt (refine nearest_right_spec _ _ _ _ _ _ _ _ _ _ _ _ _ _ _ _ _ _ _ _ _ _ _ _ _ _ _ _ _ _ _ _ _ _ _ _ _ _ _ _ (by k_asm) (by k_asm) (by k_asm) (by k_asm) (by k_asm) (by ktr_room) (by ktr_units) ⟨by k_mem, by k_mem, by k_mem, hu, hv, hmo, hvs, ?_⟩)
    intro h9 tk9 F9 N9
    try dsimp only
    try k_fold
    k_steps
    exact hret _ _ (by k_asm)
end Mine
/- M1 -/
namespace Mine
local macro_rules | `(tactic| walk_at "pad0") => `(tactic| fail)
local macro_rules | `(tactic| walk_at "pad1") => `(tactic| fail)
local macro_rules | `(tactic| walk_at "pad2") => `(tactic| fail)
local macro_rules | `(tactic| walk_at "pad3") => `(tactic| fail)
local macro_rules | `(tactic| walk_at "pad4") => `(tactic| fail)
open PyProof.Rows.LCg
theorem pool_use {w : World} {p : Program} {loose : List Str} {mean : ExcName → Option Value} {mg mb : Str → Option Value} {l : Addr} {vs : List Value} {ns : List Int} {t0 : Tok}
  {dp un : Nat} {gd : Option (List Code)} {cn : Str} {kn : List (Str × NameKind)} {g1 g2 : Bool} {mo : List (Str × Const)} {a : Addr} {ccd : Value} {cl : List (Str × Addr)} {outer : List Env} {A₀ : Around} {base h₀ : Heap} {L : Addr} {m : Str → Option Value} {news : List (Addr × Obj)} {s : Shared} {Q E : Value → Shared → Prop}
    (B : Below A₀ base outer h₀) (F : Fr h₀ L s.heap m) (X : (hd.heap_39 w.params).In h₀) (N : News h₀ L s.heap news) (T : Top p loose mean mg mb h₀)
    (hl : base.IsList l vs.toArray) (hi : IntsAre vs ns) (hf : ¬ ((63 : Nat) : Int) < (ns.length : Int))
    (hd : dp + 2 < recursionLimit) (hu : un + 8 * 2 < cLine)
    (h : ∀ (r : Addr) (x y : Int) (tx ty : Tok) (c : Nat) (h' : Heap) (tk' : Nat), Oks x y → Fr h₀ L h' m → News h₀ L h' ((r, src2 x y tx ty c) :: news) → AllLt r news → Q (.ref r) { s with heap := h', toks := tk' }) :
    wpAny (model PySem.Challenge.rw_nt0536_01.row.prog w) (ktrTop dp un gd cn { kind := .function, names := kn, isGenerator := g1, isCoroutine := g2, more := mo } L a ccd cl outer) (call (.ref 59) [.ref l, .int 0 t0]) Q E s :=
  law_pool_spec l vs ns t0 dp un gd cn kn g1 g2 mo a ccd cl outer A₀ base h₀ L m news s Q E B F X N T hd hu hl hi (Nat.lt_of_le_of_lt (m := 63) (by omega) (by decide)) h
local macro_rules | `(tactic| walk_at "call ref") => `(tactic| (k_here; (with_reducible show wpAny _ _ (call (Value.ref 59) _ _) _ _ _); k_dflt (refine' pool_use ?kB ?kF ?kX ?kN ?kT ?kl ?ki ?kf ?kd ?ku ?_; (case kB => k_asm); (case kF => k_asm); (case kX => k_asm); (case kN => k_asm); (case kT => k_asm); (case kl => k_asm); (case ki => k_asm); (case kf => k_asm); (case kd => ktr_room); (case ku => ktr_units); intro r9 x9 y9 tx9 ty9 c9 h9 tk9 hs9 F9 N9 l9; (try dsimp only); (try k_fold))))
theorem news_nil {h₀ h : Heap} {L : Addr} {m : Str → Option Value} (_ : Fr h₀ L h m) : News h₀ L h [] := fun _ hp => nomatch hp
local macro_rules | `(tactic| walk_at "call ref") => `(tactic| (k_here; (with_reducible show wpAny _ _ (call (Value.ref 93) _ _) _ _ _); k_dflt (refine' estimates_right_spec _ _ _ _ _ _ _ _ _ _ _ _ _ _ _ _ _ _ _ _ _ _ _ _ _ _ _ ?kB ?kF ?kX ?kN ?kT ?kd ?ku ⟨?ke, ?ks, ?_⟩; (case kB => k_asm); (case kF => k_asm); (case kX => k_asm); (case kN => k_asm); (case kT => k_asm); (case kd => ktr_room); (case ku => ktr_units); (case ke => exact rfl); (case ks => assumption); intro h9 tk9 F9; (have N9 := news_nil F9); (try dsimp only); (try k_fold))))
local macro_rules | `(tactic| walk_at "call ref") => `(tactic| (k_here; (with_reducible show wpAny _ _ (call (Value.ref 21) _ _) _ _ _); k_dflt (refine' quality_scale_spec _ _ _ _ _ _ _ _ _ _ _ _ _ _ _ _ _ _ _ _ _ _ _ ?kB ?kF ?kX ?kN ?kT ?kd ?ku ?_; (case kB => k_asm); (case kF => k_asm); (case kX => k_asm); (case kN => k_asm); (case kT => k_asm); (case kd => ktr_room); (case ku => ktr_units); intro t9 h9 tk9 F9 N9; (try dsimp only); (try k_fold))))
local macro_rules | `(tactic| walk_at "exec Assign cons ListComp") => `(tactic| (k_here; k_dflt (refine' LCg.Assign_ListComp_U (F₀ := ?a0) ?a1 ?a2 ?a3 ?a4 ?a5 ?a6 ?a7 ?a8 ?a9 ?_ ?a10; (case a0 => k_asm); (case a1 => exact rfl); (case a2 => with_unfolding_all rfl); (case a3 => with_unfolding_all rfl); (case a4 => decide); (case a5 => rfl); (case a6 => decide); (case a7 => rfl); (case a8 => rfl); (case a9 => rfl); (case a10 => intro _; rfl))))
local macro_rules | `(tactic| walk_at "CompSrc") => `(tactic| (k_here; k_dflt (refine LCg.CompSrc.ledger (by rfl) (by k_asm) (by k_asm) (by k_mem) (by exact Nat.le_of_ble_eq_true rfl) ?_); intro g'))
theorem ite_nt {P R : Prop} (h : R) : (if (!true) = true then P else R) := h
local macro_rules | `(tactic| walk_at "ite") => `(tactic| (k_here; with_reducible refine ite_nt ?_))
theorem main0 : PySem.Challenge.rw_nt0536_01.Holds := by
  refine hd ?_
  k_go0
  all_goals (try k_fold)
  k_steps
  trace_state
end Mine
theorem PySem.Challenge.cw_nt0536_01_holds : PySem.Challenge.rw_nt0536_01.Holds :=
  Mine.main0
