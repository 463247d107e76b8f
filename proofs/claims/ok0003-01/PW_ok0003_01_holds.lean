import PyProof.Rows.All
import Wide.All
import OpenK.AllK
import Wide.FinOn
import PySem.Challenge.RW_ok0003_01
set_option Elab.async false
set_option maxRecDepth 100000
set_option maxHeartbeats 8000000
set_option linter.all false
set_option rowWalk.seconds 0
section
open PySem PySem.W PyProof.Rows
namespace Mine
open_top hd for PySem.Challenge.rw_ok0003_01
end Mine
end
section
namespace Mine
open PySem PySem.W PySem.Calls PyProof.Rows PySem.Spec

theorem fill (w : World) : (PySem.Challenge.rw_ok0003_01 = PySem.Challenge.rw_ok0003_01) → (hd.heap_39 w.params) = hd.heap_39 w.params → True := by
  k_fill
  intros; trivial

def GivesP (f : Addr) (k : Nat) (vs : List Value) (need : Heap → List (Addr × Obj) → Prop) (R : Value → Prop) : Prop :=
  ∀ (prog : Program) (w : World) (mean : ExcName → Option Value) (mg mb : Str → Option Value) (dp un : Nat) (gd : Option (List Code)) (cn : Str) (cs : Scope) (a : Addr) (ccd : Value) (cl : List (Str × Addr)) (outer : List Env) (A₀ : Around) (base h₀ : Heap) (L : Addr) (m : Str → Option Value) (news : List (Addr × Obj)) (s : Shared) (Q E : Value → Shared → Prop),
    Below A₀ base outer h₀ → Fr h₀ L s.heap m → (hd.heap_39 w.params).In h₀ → News h₀ L s.heap news → Top hd.view_39 (looseW hd.view_39 []) mean mg mb h₀ → cs.kind = .function → need base news → dp + k < recursionLimit → un + 8 * k < cLine →
    (∀ r h' tk', Fr h₀ L h' m → News h₀ L h' news → R r → Q r { s with heap := h', toks := tk' }) →
    wpAny (model prog w) (ktrTop dp un gd cn cs L a ccd cl outer) (call (.ref f) vs) Q E s

theorem useP {f : Addr} {k : Nat} {vs : List Value} {need : Heap → List (Addr × Obj) → Prop} {R : Value → Prop} (C : GivesP f k vs need R)
    {prog : Program} {w : World} {mean : ExcName → Option Value} {mg mb : Str → Option Value} {dp un : Nat} {gd : Option (List Code)} {cn : Str} {cs : Scope} {a : Addr} {ccd : Value} {cl : List (Str × Addr)} {outer : List Env} {A₀ : Around} {base h₀ : Heap} {L : Addr} {m : Str → Option Value} {news : List (Addr × Obj)} {s : Shared} {Q E : Value → Shared → Prop}
    (B : Below A₀ base outer h₀) (F : Fr h₀ L s.heap m) (X : (hd.heap_39 w.params).In h₀) (N : News h₀ L s.heap news) (T : Top hd.view_39 (looseW hd.view_39 []) mean mg mb h₀) (hk : cs.kind = .function) (hn : need base news) (hdp : dp + k < recursionLimit) (hu : un + 8 * k < cLine)
    (ret : ∀ r h' tk', Fr h₀ L h' m → News h₀ L h' news → R r → Q r { s with heap := h', toks := tk' }) :
    wpAny (model prog w) (ktrTop dp un gd cn cs L a ccd cl outer) (call (.ref f) vs) Q E s :=
  C _ _ _ _ _ _ _ _ _ _ _ _ _ _ _ _ _ _ _ _ _ _ _ B F X N T hk hn hdp hu ret

def noNeed (_ : Heap) (_ : List (Addr × Obj)) : Prop := True

theorem retP {h₀ h' : Heap} {L : Addr} {m : Str → Option Value} {news : List (Addr × Obj)} {s : Shared} {Q : Value → Shared → Prop} {R : Value → Prop} {r : Value} {tk' : Nat}
    (hret : ∀ r h' tk', Fr h₀ L h' m → News h₀ L h' news → R r → Q r { s with heap := h', toks := tk' }) (F : Fr h₀ L h' m) (N : News h₀ L h' news) (e : R r) : Q r { s with heap := h', toks := tk' } := hret r h' tk' F N e

def isLayout (c : Int) : Bool := decide (c = 32) || (decide (9 ≤ c) && decide (c ≤ 13))
def isDigit (c : Int) : Bool := decide (48 ≤ c) && decide (c ≤ 57)
def isSmall (c : Int) : Bool := decide (97 ≤ c) && decide (c ≤ 122)
def isCapital (c : Int) : Bool := decide (65 ≤ c) && decide (c ≤ 90)
def isAlnum (c : Int) : Bool := isSmall c || isCapital c || isDigit c || decide (c = 95)

def isQuotable (c : Int) : Bool := decide (32 ≤ c) && !decide (c = 127) && decide (c ≤ 1114111)
def digitValue (c : Int) : Int := if isDigit c then c - 48 else if isSmall c then c - 87 else if isCapital c then c - 55 else -1
theorem is_layout_ok (c : Int) (t : Tok) : GivesP 21 1 [.int c t] noNeed (fun r => r = .bool (isLayout c)) := by
  unfold GivesP
  intro prog w mean mg mb dp un gd cn cs a ccd cl outer A₀ base h₀ L m news s Q E B F X N T hk hn hdp hu hret
  w_top off
  refine wpAny_call ?_
  k_dflt cell_enter
  k_steps
  all_goals (refine retP hret (by k_asm) (by k_asm) ?_)
  all_goals (refine congrArg Value.bool ?_; (try simp only [isLayout, isDigit, isSmall, isCapital, isAlnum, isQuotable] at *); (try simp_all); (try omega))

theorem is_digit_ok (c : Int) (t : Tok) : GivesP 28 1 [.int c t] noNeed (fun r => r = .bool (isDigit c)) := by
  unfold GivesP
  intro prog w mean mg mb dp un gd cn cs a ccd cl outer A₀ base h₀ L m news s Q E B F X N T hk hn hdp hu hret
  w_top off
  refine wpAny_call ?_
  k_dflt cell_enter
  k_steps
  all_goals (refine retP hret (by k_asm) (by k_asm) ?_)
  all_goals (refine congrArg Value.bool ?_; (try simp only [isLayout, isDigit, isSmall, isCapital, isAlnum, isQuotable] at *); (try simp_all); (try omega))

theorem is_small_ok (c : Int) (t : Tok) : GivesP 35 1 [.int c t] noNeed (fun r => r = .bool (isSmall c)) := by
  unfold GivesP
  intro prog w mean mg mb dp un gd cn cs a ccd cl outer A₀ base h₀ L m news s Q E B F X N T hk hn hdp hu hret
  w_top off
  refine wpAny_call ?_
  k_dflt cell_enter
  k_steps
  all_goals (refine retP hret (by k_asm) (by k_asm) ?_)
  all_goals (refine congrArg Value.bool ?_; (try simp only [isLayout, isDigit, isSmall, isCapital, isAlnum, isQuotable] at *); (try simp_all); (try omega))

theorem is_capital_ok (c : Int) (t : Tok) : GivesP 42 1 [.int c t] noNeed (fun r => r = .bool (isCapital c)) := by
  unfold GivesP
  intro prog w mean mg mb dp un gd cn cs a ccd cl outer A₀ base h₀ L m news s Q E B F X N T hk hn hdp hu hret
  w_top off
  refine wpAny_call ?_
  k_dflt cell_enter
  k_steps
  all_goals (refine retP hret (by k_asm) (by k_asm) ?_)
  all_goals (refine congrArg Value.bool ?_; (try simp only [isLayout, isDigit, isSmall, isCapital, isAlnum, isQuotable] at *); (try simp_all); (try omega))

local macro_rules | `(tactic| walk_at "call ref") => `(tactic| (k_here; k_dflt (refine' useP ?c ?k1 ?k2 ?k3 ?k4 ?k5 ?kK ?kn ?kd ?ku ?_; (case c => first | exact is_layout_ok _ _ | exact is_digit_ok _ _ | exact is_small_ok _ _ | exact is_capital_ok _ _); (case k1 => k_asm); (case k2 => k_asm); (case k3 => k_asm); (case k4 => k_asm); (case k5 => k_asm); (case kK => first | exact rfl | assumption); (case kn => trivial); (case kd => ktr_room); (case ku => ktr_units); intro r9 h9 tk9 F9 N9 e9; (try dsimp only at e9); (first | subst e9 | (obtain ⟨t9, e9⟩ := e9; subst e9)); (try dsimp only); (try k_fold))))
theorem is_alnum_ok (c : Int) (t : Tok) : GivesP 49 2 [.int c t] noNeed (fun r => r = .bool (isAlnum c)) := by
  unfold GivesP
  intro prog w mean mg mb dp un gd cn cs a ccd cl outer A₀ base h₀ L m news s Q E B F X N T hk hn hdp hu hret
  w_top off
  refine wpAny_call ?_
  k_dflt cell_enter
  k_steps
  all_goals (refine retP hret (by k_asm) (by k_asm) ?_)
  all_goals (refine congrArg Value.bool ?_; simp only [isAlnum]; simp_all; try rfl)

theorem is_quotable_ok (c : Int) (t : Tok) : GivesP 63 1 [.int c t] noNeed (fun r => r = .bool (isQuotable c)) := by
  unfold GivesP
  intro prog w mean mg mb dp un gd cn cs a ccd cl outer A₀ base h₀ L m news s Q E B F X N T hk hn hdp hu hret
  w_top off
  refine wpAny_call ?_
  k_dflt cell_enter
  k_steps
  all_goals (refine retP hret (by k_asm) (by k_asm) ?_)
  all_goals (refine congrArg Value.bool (Bool.eq_iff_iff.mpr ?_); simp only [isQuotable]; simp; simp only [decide_eq_true_eq, decide_eq_false_iff_not, bne_iff_ne, ne_eq, Bool.not_eq_true] at *; omega)

theorem digit_value_ok (c : Int) (t : Tok) : GivesP 70 2 [.int c t] noNeed (fun r => ∃ t', r = .int (digitValue c) t') := by
  unfold GivesP
  intro prog w mean mg mb dp un gd cn cs a ccd cl outer A₀ base h₀ L m news s Q E B F X N T hk hn hdp hu hret
  w_top off
  refine wpAny_call ?_
  k_dflt cell_enter
  k_steps
  all_goals (refine retP hret (by k_asm) (by k_asm) ?_)
  all_goals (refine ⟨_, congrArg (fun x => Value.int x _) ?_⟩; simp_all [digitValue])

end Mine
end
section
/-! comprehensions over a text; a comprehension's end in ints or texts, whatever the items -/
namespace Mine
open PySem PySem.W PySem.Calls PyProof.Rows PySem.Spec

section
variable {prog : Program} {w : World} {A : Around} {E : Value → Shared → Prop} {s : Shared} {h₀ : Heap} {L : Addr} {m : Str → Option Value} {env : Env}
def SrcT (prog : Program) (w : World) (A : Around) (h₀ : Heap) (L : Addr) (m : Str → Option Value) (env : Env) (elt : Expr) (x : Str) (scope : Scope) (cl : List (Str × Addr)) (Fin : Shared → List Value → List (Addr × Obj) → Prop) (xv : Value) (s₁ : Shared) : Prop :=
  ∃ y t news, xv = .str y t ∧ A.handled = none ∧ Fr h₀ L s₁.heap m ∧ News h₀ L s₁.heap news ∧ y.length ≤ sizeLine ∧
    ∀ s₂ : Shared, (∃ h, s₂ = { s₁ with heap := h }) → LCg.CompRest prog w A h₀ L m env elt x scope cl s₂ (fun _ => True) (SignAt y) (Fin s₂) y.cps.size 0 [] news
theorem SrcT.intro {elt : Expr} {x : Str} {scope : Scope} {cl : List (Str × Addr)} {Fin : Shared → List Value → List (Addr × Obj) → Prop} {y : Str} {t : Tok} {news : List (Addr × Obj)} {s₁ : Shared}
    (hh : A.handled = none) (F : Fr h₀ L s₁.heap m) (N : News h₀ L s₁.heap news) (hsz : y.length ≤ sizeLine)
    (h : ∀ g, LCg.CompRest prog w A h₀ L m env elt x scope cl { s₁ with heap := g } (fun _ => True) (SignAt y) (Fin { s₁ with heap := g }) y.cps.size 0 [] news) :
    SrcT prog w A h₀ L m env elt x scope cl Fin (.str y t) s₁ := ⟨y, t, news, rfl, hh, F, N, hsz, fun _ ⟨g, e⟩ => e ▸ h g⟩

theorem ListComp_S {elt iter : Expr} {x : Str} {px : Pos} {scope : Scope} {cl : List (Str × Addr)} {pos : Pos} {Q : Value → Shared → Prop} (F₀ : Fr h₀ L s.heap m)
    (hclos : closureFor scope env = pure cl) (hcell : ∀ y ∈ scope.names, y.2 ≠ .cell) (hkind : scope.kind = .function)
    (hnames : ∀ y ∈ scope.names, y.2 = .local → scope.names.lookup y.1 = some .local) (hx : scope.names.lookup x = some .local)
    (h : wpAny (model prog w) A (eval iter env) (SrcT prog w A h₀ L m env elt x scope cl (fun s₂ => LCg.FinE h₀ L m s₂ Q)) E s)
    (hs : ∀ x, foldedSetIterable iter env x = pure x := by intro _; rfl) :
    wpAny (model prog w) A (eval (.ListComp elt [⟨.Name x px, iter, [], 0⟩] scope pos) env) Q E s := by
  rw [eval_ListComp]
  refine wpAny_comprehension_free (use := none) rfl hs hclos hkind hnames (wpAny_mono h (fun xv s₁ h₁ => ?_) fun _ _ e => e)
  obtain ⟨y, t, news, rfl, hh, F, N, hsz, R⟩ := h₁
  have key : ∀ (o : Obj) (St : Nat → Heap → Prop), (∀ A' : Around, A'.handled = none → Walks prog w A' s₁.heap.objs.size [s₁.heap.objs.size] [s₁.heap.objs.size] y.cps.size (SignAt y) St) → St 0 (s₁.heap.push o) →
      (∀ i h, St i h → ∃ o, h.get? s₁.heap.objs.size = some o) →
      wpAny (model prog w) A (newList []) (fun acc s₃ => wpAny (model prog w) A (newFunctionEnv scope env.globals cl [] env.qual none .none (some env)) (fun cenv s₄ =>
      codeAny (model prog w) A (.compStart (.ListComp elt [⟨.Name x px, iter, [], 0⟩] scope pos) 0 (.ref s₁.heap.objs.size) acc { cenv with scope := relabel scope env }) (compPost (model prog w) A E none Q acc cenv.locals) s₄) E s₃) E { s₁ with heap := s₁.heap.push o } := by
    intro o St W hst hIo
    refine LCg.block_U (RR := compPost (model prog w) A E none Q) (W A hh) hsz hIo (fun i h h' o nw st e e' _ _ _ => (W A hh).frame i h h' st fun b hb o' eo => by
          rw [List.mem_singleton.mp hb] at eo ⊢
          rw [e] at eo; cases eo; exact e') hcell hkind hx hst (fun b hb => ?_)
      (F.keeps fun _ _ e => Heap.get?_push_of_some _ e) (N.grown fun _ _ e => Heap.get?_push_of_some _ e) (Nat.ne_of_lt F.ns.lt) (next_is_new F) (fun p hp => Nat.ne_of_lt (Heap.lt_size (N p hp).1)) trivial (R _ ⟨_, rfl⟩) ?_
    · rw [List.mem_singleton.mp hb]
      show s₁.heap.objs.size < (s₁.heap.push _).objs.size
      rw [Heap.size_push]; exact Nat.lt_succ_self _
    · intro D C h tk m' ys news' F' N' o1 hn hC₀ hD₀ hCL hDL hCD offC fin
      refine ⟨m', hn, fun h'' hs'' => fin D h'' tk (F'.change hs'' hCL hC₀) (fun p hp => ?_) o1⟩
      refine ⟨hs''.extBut _ _ ?_ (N' p hp).1, (N' p hp).2⟩
      rcases List.mem_cons.mp hp with rfl | hp
      · exact Ne.symm hCD
      · exact offC p hp
  cases ha : y.cps.all (· < 128)
  · exact wpAny_pyIter_wide ha (key { cls := Value.type "str_iterator", data := Data.fields #[Value.str y t, Value.int 0 0] } _ (fun A' hA => Walks.strWide hA _ y t) ⟨_, Heap.get?_push_size _ rfl, rfl, rfl⟩ fun i h ⟨o, e, _⟩ => ⟨o, e⟩)
  · exact wpAny_pyIter_ascii ha (key { cls := Value.type "str_ascii_iterator", data := Data.fields #[Value.str y t, Value.int 0 0] } _ (fun A' hA => Walks.strAscii hA _ y t) ⟨_, Heap.get?_push_size _ rfl, rfl, rfl⟩ fun i h ⟨o, e, _⟩ => ⟨o, e⟩)
end

section
variable {prog : Program} {w : World} {A : Around} {h₀ : Heap} {L : Addr} {m : Str → Option Value} {env : Env} {elt : Expr} {x : Str} {scope : Scope} {cl : List (Str × Addr)} {s : Shared} {S : List (Addr × Obj) → Prop} {P : Nat → Value → Prop} {Fin : List Value → List (Addr × Obj) → Prop} {news : List (Addr × Obj)}
theorem rest_ints {α : Type} {n : Nat} {as : List α} (is : α → Value → Prop) (g : α → Int) (hks : as.length = n) (hP : ∀ i v, i < n → P i v → ∃ a, as[i]? = some a ∧ is a v)
    (turn : ∀ a v I oI C oC D m₂ ys h tk (E' : Value → Shared → Prop), a ∈ as → is a v → LCg.NsObj oC m₂ → m₂ x = some v → Fr h₀ L h m → News h₀ L h ((I, oI) :: (C, oC) :: (D, LCg.lst ys) :: news) → LCg.Off3 I C D news → ((@Ne Nat I C) ∧ (@Ne Nat I D) ∧ (@Ne Nat C D)) →
      wpAny (model prog w) A (eval elt (compEnvC scope cl C env)) (LCg.CompEnd h₀ L m { s with heap := h, toks := tk } I oI C oC D (LCg.lst ys) S (fun y news' => KCfEl news (g a) y news')) E' { s with heap := h, toks := tk })
    (fin : ∀ ys, IntsAre ys (as.map g) → Fin ys news) : LCg.CompRest prog w A h₀ L m env elt x scope cl s S P Fin n 0 [] news := by
  have key : ∀ (j i : Nat) (ys : List Value), i + j = n → IntsAre ys ((as.take i).map g) → LCg.CompRest prog w A h₀ L m env elt x scope cl s S P Fin j i ys news := by
    intro j
    induction j with
    | zero =>
      intro i ys hi hy
      have e : i = as.length := by omega
      subst e
      rw [List.take_length] at hy
      exact LCg.CompRest.zero (fin ys hy)
    | succ j ih =>
      intro i ys hi hy
      refine LCg.CompRest.succ ?_
      intro v I oI C oC D m₂ h tk E' hv hC hx F N off ne
      obtain ⟨a, hk, hv'⟩ := hP i v (by omega) hv
      refine wpAny_mono (turn a v I oI C oC D m₂ ys h tk E' (List.mem_of_getElem? hk) hv' hC hx F N off ne) (fun y s₂ hq => ?_) fun _ _ e => e
      obtain ⟨h', tk', nw, e, F', N', off', hS, hn, t', hy'⟩ := hq
      rw [hn] at N' off' hS
      refine ⟨h', tk', news, e, F', N', off', hS, ?_⟩
      rw [hy']
      refine ih (i + 1) _ (by omega) ?_
      rw [List.take_add_one, hk]
      simpa using IntsAre.append hy (.cons (g a) t' .nil)
  exact key n 0 [] (by omega) (by simp only [List.take_zero, List.map_nil]; exact .nil)
theorem rest_strs {α : Type} {n : Nat} {as : List α} (is : α → Value → Prop) (g : α → Str) (hks : as.length = n) (hP : ∀ i v, i < n → P i v → ∃ a, as[i]? = some a ∧ is a v)
    (turn : ∀ a v I oI C oC D m₂ ys h tk (E' : Value → Shared → Prop), a ∈ as → is a v → LCg.NsObj oC m₂ → m₂ x = some v → Fr h₀ L h m → News h₀ L h ((I, oI) :: (C, oC) :: (D, LCg.lst ys) :: news) → LCg.Off3 I C D news → ((@Ne Nat I C) ∧ (@Ne Nat I D) ∧ (@Ne Nat C D)) →
      wpAny (model prog w) A (eval elt (compEnvC scope cl C env)) (LCg.CompEnd h₀ L m { s with heap := h, toks := tk } I oI C oC D (LCg.lst ys) S (fun y news' => KCtEl news (g a) y news')) E' { s with heap := h, toks := tk })
    (fin : ∀ ys, StrsAre ys (as.map g) → Fin ys news) : LCg.CompRest prog w A h₀ L m env elt x scope cl s S P Fin n 0 [] news := by
  have key : ∀ (j i : Nat) (ys : List Value), i + j = n → StrsAre ys ((as.take i).map g) → LCg.CompRest prog w A h₀ L m env elt x scope cl s S P Fin j i ys news := by
    intro j
    induction j with
    | zero =>
      intro i ys hi hy
      have e : i = as.length := by omega
      subst e
      rw [List.take_length] at hy
      exact LCg.CompRest.zero (fin ys hy)
    | succ j ih =>
      intro i ys hi hy
      refine LCg.CompRest.succ ?_
      intro v I oI C oC D m₂ h tk E' hv hC hx F N off ne
      obtain ⟨a, hk, hv'⟩ := hP i v (by omega) hv
      refine wpAny_mono (turn a v I oI C oC D m₂ ys h tk E' (List.mem_of_getElem? hk) hv' hC hx F N off ne) (fun y s₂ hq => ?_) fun _ _ e => e
      obtain ⟨h', tk', nw, e, F', N', off', hS, hn, t', hy'⟩ := hq
      rw [hn] at N' off' hS
      refine ⟨h', tk', news, e, F', N', off', hS, ?_⟩
      rw [hy']
      refine ih (i + 1) _ (by omega) ?_
      rw [List.take_add_one, hk]
      simpa using kct_snoc hy
  exact key n 0 [] (by omega) (by simp only [List.take_zero, List.map_nil]; exact .nil)
theorem StrsAre.at {vs : List Value} {xs : List Str} (h : StrsAre vs xs) : ∀ (i : Nat) (v : Value), vs[i]? = some v → ∃ x t, v = .str x t ∧ xs[i]? = some x := by
  induction h with
  | nil => intro i v h; simp at h
  | cons y t _ ih =>
    intro i v h
    cases i with
    | zero => simp at h; exact ⟨y, t, h.symm, by simp⟩
    | succ i => simpa using ih i v (by simpa using h)
theorem StrsAre.len {vs : List Value} {xs : List Str} (h : StrsAre vs xs) : vs.length = xs.length := by
  induction h with
  | nil => rfl
  | cons y t _ ih => simp [ih]
end
def code1 (y : Str) : Int := ((y.cps.getD 0 0 : Nat) : Int)
theorem codes_signs (x : Str) : (signs x).map code1 = KStt.codes x := by
  unfold signs KStt.codes
  rw [List.map_map]
  rfl
theorem signs_at {y : Str} : ∀ i v, i < y.cps.size → SignAt y i v → ∃ a, (signs y)[i]? = some a ∧ (a.length = 1 ∧ ∃ t, v = .str a t) := by
  intro i v hi ⟨c, u, hc, hv⟩
  exact ⟨⟨#[c]⟩, by simp [signs, hc], rfl, u, hv⟩
end Mine
end
section
namespace Mine
open PySem PySem.W PySem.Calls PyProof.Rows PySem.Spec
theorem fill2 (w : World) : (PySem.Challenge.rw_ok0003_01 = PySem.Challenge.rw_ok0003_01) → (hd.heap_39 w.params) = hd.heap_39 w.params → True := by
  k_fill
  intros; trivial

/-- the def's call gives a new list, whose items P tells -/
def GivesL (f : Addr) (k : Nat) (vs : List Value) (need : Heap → List (Addr × Obj) → Prop) (P : List Value → Prop) : Prop :=
  ∀ (prog : Program) (w : World) (mean : ExcName → Option Value) (mg mb : Str → Option Value) (dp un : Nat) (gd : Option (List Code)) (cn : Str) (cs : Scope) (a : Addr) (ccd : Value) (cl : List (Str × Addr)) (outer : List Env) (A₀ : Around) (base h₀ : Heap) (L : Addr) (m : Str → Option Value) (news : List (Addr × Obj)) (s : Shared) (Q E : Value → Shared → Prop),
    Below A₀ base outer h₀ → Fr h₀ L s.heap m → (hd.heap_39 w.params).In h₀ → News h₀ L s.heap news → Top hd.view_39 (looseW hd.view_39 []) mean mg mb h₀ → cs.kind = .function → need base news → dp + k < recursionLimit → un + 8 * k < cLine →
    (∀ l us n h' tk', Fr h₀ L h' m → News h₀ L h' ((l, listOf us.toArray n) :: news) → LCg.Off1 l news → P us → Q (.ref l) { s with heap := h', toks := tk' }) →
    wpAny (model prog w) (ktrTop dp un gd cn cs L a ccd cl outer) (call (.ref f) vs) Q E s
theorem useL {f : Addr} {k : Nat} {vs : List Value} {need : Heap → List (Addr × Obj) → Prop} {P : List Value → Prop} (C : GivesL f k vs need P)
    {prog : Program} {w : World} {mean : ExcName → Option Value} {mg mb : Str → Option Value} {dp un : Nat} {gd : Option (List Code)} {cn : Str} {cs : Scope} {a : Addr} {ccd : Value} {cl : List (Str × Addr)} {outer : List Env} {A₀ : Around} {base h₀ : Heap} {L : Addr} {m : Str → Option Value} {news : List (Addr × Obj)} {s : Shared} {Q E : Value → Shared → Prop}
    (B : Below A₀ base outer h₀) (F : Fr h₀ L s.heap m) (X : (hd.heap_39 w.params).In h₀) (N : News h₀ L s.heap news) (T : Top hd.view_39 (looseW hd.view_39 []) mean mg mb h₀) (hk : cs.kind = .function) (hn : need base news) (hdp : dp + k < recursionLimit) (hu : un + 8 * k < cLine)
    (ret : ∀ l us n h' tk', Fr h₀ L h' m → News h₀ L h' ((l, listOf us.toArray n) :: news) → LCg.Off1 l news → P us → Q (.ref l) { s with heap := h', toks := tk' }) :
    wpAny (model prog w) (ktrTop dp un gd cn cs L a ccd cl outer) (call (.ref f) vs) Q E s :=
  C _ _ _ _ _ _ _ _ _ _ _ _ _ _ _ _ _ _ _ _ _ _ _ B F X N T hk hn hdp hu ret
theorem retL {h₀ h' : Heap} {L : Addr} {m : Str → Option Value} {news : List (Addr × Obj)} {s : Shared} {Q : Value → Shared → Prop} {P : List Value → Prop} {l : Addr} {us : List Value} {n tk' : Nat}
    (hret : ∀ l us n h' tk', Fr h₀ L h' m → News h₀ L h' ((l, listOf us.toArray n) :: news) → LCg.Off1 l news → P us → Q (.ref l) { s with heap := h', toks := tk' }) (F : Fr h₀ L h' m) (N : News h₀ L h' ((l, listOf us.toArray n) :: news)) (lt : LCg.Off1 l news) (e : P us) : Q (.ref l) { s with heap := h', toks := tk' } := hret l us n h' tk' F N lt e
theorem off1_lt {l : Addr} : ∀ {news : List (Addr × Obj)}, (∀ p ∈ news, p.1 < l) → LCg.Off1 l news
  | [], _ => trivial
  | _ :: _, h => ⟨Nat.ne_of_lt (h _ List.mem_cons_self), off1_lt fun p hp => h p (List.mem_cons_of_mem _ hp)⟩

def isSymbol (c : Int) : Bool := [43, 45, 42, 47, 92, 94, 60, 62, 61, 126, 58, 63, 46, 64, 35, 38, 36].contains c
theorem sym_small : ∀ n : Nat, n < 128 → (!(Builtin.Str.occurrences (Str.ofString "+-*/\\^<>=~:.?@#&$") { cps := #[n] } 0 (Str.ofString "+-*/\\^<>=~:.?@#&$").length 1).isEmpty) = isSymbol (n : Int) := by decide +kernel
theorem sym_in (c : Int) (h0 : 0 ≤ c) (h1 : c < 128) : (!(Builtin.Str.occurrences (Str.ofString "+-*/\\^<>=~:.?@#&$") { cps := #[c.toNat] } 0 (Str.ofString "+-*/\\^<>=~:.?@#&$").length 1).isEmpty) = isSymbol c := by
  have := sym_small c.toNat (by omega)
  rw [this, Int.toNat_of_nonneg h0]
theorem sym_hi (c : Int) (h1 : ¬ c < 128) : decide (c < 128) = isSymbol c := by
  rw [decide_eq_false h1]
  symm
  simp only [isSymbol, List.contains_eq_mem, List.mem_cons, List.not_mem_nil, or_false, decide_eq_false_iff_not]
  omega
theorem sym_lo (c : Int) (h1 : ¬ 0 ≤ c) : decide (0 ≤ c) = isSymbol c := by
  rw [decide_eq_false h1]
  symm
  simp only [isSymbol, List.contains_eq_mem, List.mem_cons, List.not_mem_nil, or_false, decide_eq_false_iff_not]
  omega
theorem is_symbol_ok (c : Int) (t : Tok) : GivesP 56 1 [.int c t] noNeed (fun r => r = .bool (isSymbol c)) := by
  unfold GivesP
  intro prog w mean mg mb dp un gd cn cs a ccd cl outer A₀ base h₀ L m news s Q E B F X N T hk hn hdp hu hret
  k_with_none
  w_top off
  refine wpAny_call ?_
  k_dflt cell_enter
  k_steps
  all_goals (refine retP hret (by k_asm) (by k_asm) ?_)
  · exact congrArg Value.bool (sym_in c (by assumption) (by assumption))
  · exact congrArg Value.bool (sym_hi c (by assumption))
  · exact congrArg Value.bool (sym_lo c (by assumption))

def lawSigns : List Str := ["+", "-", "*", "/", "\\", "^", "<", ">", "=", "~", ":", "?", ".", "@", "#", "&", "$"].map Str.ofString
theorem law_signs_ok : GivesL 115 1 [] noNeed (fun us => StrsAre us lawSigns) := by
  unfold GivesL
  intro prog w mean mg mb dp un gd cn cs a ccd cl outer A₀ base h₀ L m news s Q E B F X N T hk hn hdp hu hret
  k_with_none
  w_top off
  refine wpAny_call ?_
  k_dflt cell_enter
  k_steps
  refine hret _ _ _ _ _ (by k_asm) (by k_asm) (off1_lt (by k_asm)) ?_
  repeat' (first | exact StrsAre.nil | refine StrsAre.cons _ _ ?_)

theorem text_codes_ok (x : Str) (t : Tok) (hx : x.length ≤ sizeLine) : GivesL 75 2 [.str x t] noNeed (fun us => IntsAre us (KStt.codes x)) := by
  unfold GivesL
  intro prog w mean mg mb dp un gd cn cs a ccd cl outer A₀ base h₀ L m news s Q E B F X N T hk hn hdp hu hret
  k_with_none
  k_with "eval ListComp" => (k_dflt (refine ListComp_S (F₀ := by k_asm) (by rfl) (by decide) (by rfl) (by decide) (by rfl) ?_))
  k_with "SrcT" => ((refine SrcT.intro (by rfl) (by k_asm) (by k_asm) (by assumption) ?_); intro g'; (refine' rest_ints _ code1 (signs_length _) signs_at (fun k' t' I' oI' C' oC' D' m' ys' h' tk' E' hk' hv' hC' hx' F' N' off' ne' => ?_) ?_); (all_goals (try (simp only [LCg.Off3, and_true] at off'))); (all_goals (try (obtain ⟨h1', t1', e1'⟩ := hv'; subst e1'))); (all_goals (try k_fold)))
  w_top off
  refine wpAny_call ?_
  k_dflt cell_enter
  k_steps
  · exact ⟨rfl, _, rfl⟩
  refine hret _ _ _ _ _ (by k_asm) (by k_asm) (by k_asm) ?_
  rw [← codes_signs]; assumption
end Mine
end
section
namespace Mine
open PySem PySem.W PySem.Calls PyProof.Rows PySem.Spec
theorem fill3 (w : World) : (PySem.Challenge.rw_ok0003_01 = PySem.Challenge.rw_ok0003_01) → (hd.heap_39 w.params) = hd.heap_39 w.params → True := by
  k_fill
  intros; trivial

/-- the need of a def that reads a list of the caller's: it stands in the ledger -/
def needList (l : Addr) (us : List Value) (n : Nat) (_ : Heap) (news : List (Addr × Obj)) : Prop := (l, listOf us.toArray n) ∈ news
theorem ints_at {us : List Value} {ns : List Int} (hi : IntsAre us ns) : ∀ i v, i < us.toArray.size → us.toArray[i]? = some v → ∃ a, ns[i]? = some a ∧ (a ∈ ns ∧ ∃ t, v = .int a t) := fun i v _ hv => by
  obtain ⟨k, t, e, hk⟩ := IntsAre.at hi i v (by simpa using hv)
  exact ⟨k, hk, List.mem_of_getElem? hk, t, e⟩
theorem code_lo {x : Str} {c : Int} (h : c ∈ KStt.codes x) : 0 ≤ c := by
  unfold KStt.codes at h
  obtain ⟨n, _, rfl⟩ := List.mem_map.mp h
  omega
theorem signs_codes (x : Str) : (KStt.codes x).map (fun c => (⟨#[c.toNat]⟩ : Str)) = signs x := by
  unfold KStt.codes signs
  rw [List.map_map]
  rfl
theorem join_empty (x : Str) : Txt.join (Str.ofString "") (signs x) = x := by
  rw [show Str.ofString "" = ⟨#[]⟩ from by decide +kernel]
  exact (StrLaws.glued_eq_join _ _).trans (join_nil_signs x)
theorem signs_len1 (x : Str) : ((signs x).map (·.length)).sum = x.length := by
  unfold signs Str.length
  rw [List.map_map]
  show (x.cps.toList.map (fun _ => 1)).sum = _
  rw [List.map_const', List.sum_replicate_nat, Array.length_toList]; omega
theorem codes_text_ok (x : Str) (l : Addr) (us : List Value) (n : Nat) (hi : IntsAre us (KStt.codes x)) (hl : x.length ≤ 1000) (hc : ∀ c ∈ KStt.codes x, c < 1114112) : GivesP 80 2 [.ref l] (needList l us n) (fun r => ∃ t, r = .str x t) := by
  unfold GivesP
  intro prog w mean mg mb dp un gd cn cs a ccd cl outer A₀ base h₀ L m news s Q E B F X N T hk hn hdp hu hret
  have hm : (l, listOf us.toArray n) ∈ news := hn
  have hlen : us.toArray.size ≤ sizeLine := by rw [List.size_toArray, hi.length, KStt.codes_length, PySem.sizeLine_eq]; omega
  k_with_none
  k_with "eval ListComp" => (k_dflt (refine LCg.ListComp_U (F₀ := by k_asm) (by rfl) (by decide) (by rfl) (by decide) (by rfl) ?_))
  k_with "CompSrc" => ((refine LCg.CompSrc.ledger (by rfl) (by k_asm) (by k_asm) (by assumption) (by assumption) ?_); intro g'; (refine' rest_strs _ (fun c => (⟨#[c.toNat]⟩ : Str)) (by rw [List.size_toArray]; exact (IntsAre.length hi).symm) (ints_at hi) (fun k' t' I' oI' C' oC' D' m' ys' h' tk' E' hk' hv' hC' hx' F' N' off' ne' => ?_) ?_); (all_goals (try (simp only [LCg.Off3, and_true] at off'))); (all_goals (try (obtain ⟨h1', t1', e1'⟩ := hv'; subst e1'; (have h2' := code_lo h1'); (have h3' := hc _ h1')))); (all_goals (try k_fold)))
  k_with "CompEnd" => (refine LCg.CompEnd.intro (by assumption) (by assumption) news (fun _ h => h) (by first | assumption | (simp only [LCg.Off3, and_true]; assumption)) (Or.inr ⟨_, hm, rfl, _, rfl⟩) ⟨rfl, _, rfl⟩)
  k_with "call builtin:str.join" => ((rename StrsAre _ _ => hS9); (refine join_list (News.isList (by k_asm) (List.Mem.head _)) (by rw [List.toList_toArray]; exact hS9) ?_ ?_); (rotate_left); (intro t9 k9); (rotate_left))
  w_top off
  refine wpAny_call ?_
  k_dflt cell_enter
  k_steps
  · rw [signs_codes, signs_len1, signs_length, show (Str.ofString "").length = 0 from by decide +kernel]; omega
  · refine retP hret (by k_asm) (cb_drop (by k_asm) (fun p hp => List.mem_cons_of_mem _ hp)) ⟨t9, ?_⟩
    rw [signs_codes]
    exact congrArg (fun z => Value.str z t9) (join_empty x)
end Mine
end
section
namespace Mine
open PySem PySem.W PySem.Calls PyProof.Rows PySem.Spec
theorem fill4 (w : World) : (PySem.Challenge.rw_ok0003_01 = PySem.Challenge.rw_ok0003_01) → (hd.heap_39 w.params) = hd.heap_39 w.params → True := by
  k_fill
  intros; trivial
local macro_rules | `(tactic| walk_at "call ref") => `(tactic| (k_here; k_dflt (refine' useP ?c ?k1 ?k2 ?k3 ?k4 ?k5 ?kK ?kn ?kd ?ku ?_; (case c => first | exact is_small_ok _ _ | exact is_alnum_ok _ _ | exact is_symbol_ok _ _); (case k1 => k_asm); (case k2 => k_asm); (case k3 => k_asm); (case k4 => k_asm); (case k5 => k_asm); (case kK => first | exact rfl | assumption); (case kn => trivial); (case kd => ktr_room); (case ku => ktr_units); intro r9 h9 tk9 F9 N9 e9; (try dsimp only at e9); (first | subst e9 | (obtain ⟨t9, e9⟩ := e9; subst e9)); (try dsimp only); (try k_fold))))
def alnumName (x : Str) : Bool := match KStt.codes x with
  | [] => false
  | c :: r => isSmall c && (c :: r).all isAlnum
def signName (x : Str) : Bool := !(KStt.codes x).isEmpty && (KStt.codes x).all isSymbol
theorem codes_nil_of {x : Str} (h : (x == Str.ofString "") = true) : KStt.codes x = [] := by
  have h : x = Str.ofString "" := by simpa using h
  subst h; decide +kernel
theorem codes_ne_of {x : Str} (h : 1 ≤ x.length) : KStt.codes x ≠ [] := by
  intro e
  have := KStt.codes_length x
  rw [e] at this
  simp at this; omega
theorem codes_head {x : Str} {c : Int} {r : List Int} (h : KStt.codes x = c :: r) : (((Txt.item x 0).cps.getD 0 0 : Nat) : Int) = c := by
  obtain ⟨⟨l⟩⟩ := x
  cases l with
  | nil => simp [KStt.codes] at h
  | cons a b =>
    simp [KStt.codes] at h
    rw [← h.1]
    have e := item_zero_left a b Str.empty
    rw [Str.append_empty] at e
    rw [e]; rfl
theorem an_empty {x : Str} (h : (x == Str.ofString "") = true) : false = alnumName x := by unfold alnumName; rw [codes_nil_of h]
theorem an_no {x : Str} {pre post : List Int} {n : Int} (e : KStt.codes x = pre ++ n :: post) (h : isAlnum n = false) : false = alnumName x := by
  unfold alnumName
  cases hc : KStt.codes x with
  | nil => rfl
  | cons c r =>
    have hm : n ∈ c :: r := by rw [← hc, e]; simp
    have : (c :: r).all isAlnum = false := by
      rw [← Bool.not_eq_true, List.all_eq_true]
      intro ha
      rw [ha n hm] at h
      cases h
    show false = (isSmall c && (c :: r).all isAlnum)
    rw [this, Bool.and_false]
theorem an_yes {x : Str} (h1 : 1 ≤ x.length) (h2 : isSmall (((Txt.item x 0).cps.getD 0 0 : Nat) : Int) = true) (h3 : ∀ c ∈ KStt.codes x, isAlnum c = true) : true = alnumName x := by
  unfold alnumName
  cases hc : KStt.codes x with
  | nil => exact absurd hc (codes_ne_of h1)
  | cons c r =>
    rw [codes_head hc] at h2
    rw [hc] at h3
    show true = (isSmall c && (c :: r).all isAlnum)
    rw [h2, List.all_eq_true.mpr h3]; rfl
theorem an_first {x : Str} (h2 : isSmall (((Txt.item x 0).cps.getD 0 0 : Nat) : Int) = false) : false = alnumName x := by
  unfold alnumName
  cases hc : KStt.codes x with
  | nil => rfl
  | cons c r =>
    rw [codes_head hc] at h2
    show false = (isSmall c && (c :: r).all isAlnum)
    rw [h2]; rfl
theorem sn_empty {x : Str} (h : (x == Str.ofString "") = true) : false = signName x := by unfold signName; rw [codes_nil_of h]; rfl
theorem sn_no {x : Str} {pre post : List Int} {n : Int} (e : KStt.codes x = pre ++ n :: post) (h : isSymbol n = false) : false = signName x := by
  unfold signName
  have : (KStt.codes x).all isSymbol = false := by
    rw [← Bool.not_eq_true, List.all_eq_true]
    intro ha
    rw [ha n (by rw [e]; simp)] at h
    cases h
  rw [this, Bool.and_false]
theorem sn_yes {x : Str} (h1 : KStt.codes x ≠ []) (h3 : ∀ c ∈ KStt.codes x, isSymbol c = true) : true = signName x := by
  unfold signName
  rw [List.all_eq_true.mpr h3]
  cases h : KStt.codes x with
  | nil => exact absurd h h1
  | cons c r => rfl
theorem ne_of_ne {x : Str} (h : (x == Str.ofString "") = false) : KStt.codes x ≠ [] := by
  intro e
  have : x = Str.ofString "" := by
    have h1 := KStt.txt_codes x
    rw [e] at h1
    rw [← h1]; decide +kernel
  rw [this] at h
  revert h; decide +kernel
theorem is_alnum_name_ok (x : Str) (t : Tok) : GivesP 94 3 [.str x t] (noNeed) (fun r => r = .bool (alnumName x)) := by
  unfold GivesP
  intro prog w mean mg mb dp un gd cn cs a ccd cl outer A₀ base h₀ L m news s Q E B F X N T hk hn hdp hu hret
  k_with_none
  k_with "pyIter str" => (k_here; (rename Fr _ _ _ _ => lF'); (rename News _ _ _ _ => lN'); (with_unfolding_all refine' KStt.kst_text (σ := Unit) (fun _ => _) (fun _ => []) (fun _ => True) [] (fun pre _ => ∀ c ∈ pre, isAlnum c = true) () (by rfl) lF' lN' True.intro (List.forall_mem_nil _) ?kp ?_ ?_); (case kp => exact List.forall_mem_nil _); (all_goals (clear lF' lN')); (rotate_left); (intro _ kU kH kTk _ kAll kFr kNews; (try dsimp only [kstB] at kFr); (try dsimp only at kAll); (try dsimp only at kNews)); (rotate_left); (intro _ kPre kPost kN kT kU kH kTk kOwn kEq kOff _ kInv kFr kNews; (try dsimp only [kstB] at kFr); (try dsimp only at kInv); (try dsimp only at kNews)); (all_goals (try k_fold)))
  w_top off
  refine wpAny_call ?_
  k_dflt cell_enter
  k_steps
  all_goals (try refine retP hret (by k_asm) (by first | k_asm | (refine' cb_drop ?cbN ?cbS; (case cbN => assumption); (case cbS => kcj_all))) ?_)
  · exact congrArg Value.bool (an_empty (by assumption))
  · exact congrArg Value.bool (an_no kEq (by assumption))
  · exact congrArg Value.bool (an_yes (by assumption) (by assumption) kAll)
  · exact congrArg Value.bool (an_first (by assumption))
theorem is_symbol_name_ok (x : Str) (t : Tok) : GivesP 101 2 [.str x t] (noNeed) (fun r => r = .bool (signName x)) := by
  unfold GivesP
  intro prog w mean mg mb dp un gd cn cs a ccd cl outer A₀ base h₀ L m news s Q E B F X N T hk hn hdp hu hret
  k_with_none
  k_with "pyIter str" => (k_here; (rename Fr _ _ _ _ => lF'); (rename News _ _ _ _ => lN'); (with_unfolding_all refine' KStt.kst_text (σ := Unit) (fun _ => _) (fun _ => []) (fun _ => True) [] (fun pre _ => ∀ c ∈ pre, isSymbol c = true) () (by rfl) lF' lN' True.intro (List.forall_mem_nil _) ?kp ?_ ?_); (case kp => exact List.forall_mem_nil _); (all_goals (clear lF' lN')); (rotate_left); (intro _ kU kH kTk _ kAll kFr kNews; (try dsimp only [kstB] at kFr); (try dsimp only at kAll); (try dsimp only at kNews)); (rotate_left); (intro _ kPre kPost kN kT kU kH kTk kOwn kEq kOff _ kInv kFr kNews; (try dsimp only [kstB] at kFr); (try dsimp only at kInv); (try dsimp only at kNews)); (all_goals (try k_fold)))
  w_top off
  refine wpAny_call ?_
  k_dflt cell_enter
  k_steps
  all_goals (try refine retP hret (by k_asm) (by first | k_asm | (refine' cb_drop ?cbN ?cbS; (case cbN => assumption); (case cbS => kcj_all))) ?_)
  · exact congrArg Value.bool (sn_empty (by assumption))
  · exact congrArg Value.bool (sn_no kEq (by assumption))
  · exact congrArg Value.bool (sn_yes (ne_of_ne (by assumption)) kAll)
end Mine
end
section
namespace Mine
open PySem PySem.W PySem.Calls PyProof.Rows PySem.Spec
theorem fill5 (w : World) : (PySem.Challenge.rw_ok0003_01 = PySem.Challenge.rw_ok0003_01) → (hd.heap_39 w.params) = hd.heap_39 w.params → True := by
  k_fill
  intros; trivial
local macro_rules | `(tactic| walk_at "call ref") => `(tactic| (k_here; k_dflt (refine' useP ?c ?k1 ?k2 ?k3 ?k4 ?k5 ?kK ?kn ?kd ?ku ?_; (case c => first | exact is_alnum_name_ok _ _ | exact is_symbol_name_ok _ _); (case k1 => k_asm); (case k2 => k_asm); (case k3 => k_asm); (case k4 => k_asm); (case k5 => k_asm); (case kK => first | exact rfl | assumption); (case kn => trivial); (case kd => ktr_room); (case ku => ktr_units); intro r9 h9 tk9 F9 N9 e9; (try dsimp only at e9); (first | subst e9 | (obtain ⟨t9, e9⟩ := e9; subst e9)); (try dsimp only); (try k_fold))))
local macro_rules | `(tactic| walk_at "call ref") => `(tactic| (k_here; k_dflt (refine' useL law_signs_ok ?k1 ?k2 ?k3 ?k4 ?k5 ?kK ?kn ?kd ?ku ?_; (case k1 => k_asm); (case k2 => k_asm); (case k3 => k_asm); (case k4 => k_asm); (case k5 => k_asm); (case kK => first | exact rfl | assumption); (case kn => trivial); (case kd => ktr_room); (case ku => ktr_units); intro l9 us9 n9 h9 tk9 F9 N9 lt9 S9; (try simp only [LCg.Off1, and_true] at lt9); (try dsimp only); (try k_fold))))

def plainName (x : Str) : Bool := [Str.ofString "[]", Str.ofString "{}", Str.ofString "!", Str.ofString ";"].any (· == x) || alnumName x || (signName x && (x != Str.ofString ".") && !Txt.startswith x (Str.ofString "/*"))
theorem pn1 {x : Str} (h : ([Str.ofString "[]", Str.ofString "{}", Str.ofString "!", Str.ofString ";"].any fun y => y == x) = true) : true = plainName x := by unfold plainName; rw [h]; rfl
theorem pn2 {x : Str} (h : alnumName x = true) : true = plainName x := by unfold plainName; rw [h, Bool.or_true]; rfl
theorem pn3 {x : Str} (h1 : ([Str.ofString "[]", Str.ofString "{}", Str.ofString "!", Str.ofString ";"].any fun y => y == x) = false) (h2 : alnumName x = false) (h3 : signName x = true) (h4 : (x != Str.ofString ".") = true) : (!Txt.startswith x (Str.ofString "/*")) = plainName x := by
  unfold plainName; rw [h1, h2, h3, h4]; rfl
theorem pn4 {x : Str} (h1 : ([Str.ofString "[]", Str.ofString "{}", Str.ofString "!", Str.ofString ";"].any fun y => y == x) = false) (h2 : alnumName x = false) (h3 : signName x = true) (h4 : (x != Str.ofString ".") = false) : (x != Str.ofString ".") = plainName x := by
  unfold plainName; rw [h1, h2, h3, h4]; rfl
theorem pn5 {x : Str} (h1 : ([Str.ofString "[]", Str.ofString "{}", Str.ofString "!", Str.ofString ";"].any fun y => y == x) = false) (h2 : alnumName x = false) (h3 : signName x = false) : signName x = plainName x := by
  unfold plainName; rw [h1, h2, h3]; rfl
def symNats : List Nat := [43, 45, 42, 47, 92, 94, 60, 62, 61, 126, 58, 63, 46, 64, 35, 38, 36]
theorem lawSigns_is : lawSigns = symNats.map fun k => (⟨#[k]⟩ : Str) := by decide +kernel
theorem one_eq (k n : Nat) : ((⟨#[k]⟩ : Str) == ⟨#[n]⟩) = (k == n) := by
  rw [Bool.eq_iff_iff]; simp
theorem sym_cast (c : Int) : isSymbol c = (symNats.map Int.ofNat).any (fun x => x == c) := by
  have e : symNats.map Int.ofNat = [43, 45, 42, 47, 92, 94, 60, 62, 61, 126, 58, 63, 46, 64, 35, 38, 36] := rfl
  unfold isSymbol
  rw [List.contains_eq_any_beq, e]
  congr 1
  funext x
  exact Bool.beq_comm
theorem sym_nat (n : Nat) : isSymbol (n : Int) = symNats.any (· == n) := by
  rw [sym_cast, List.any_map]
  congr 1
  funext k
  show (Int.ofNat k == (n : Int)) = (k == n)
  rw [Bool.eq_iff_iff, beq_iff_eq, beq_iff_eq]
  exact Int.ofNat_inj
theorem lawSigns_any (n : Nat) : (lawSigns.any fun x => x == (⟨#[n]⟩ : Str)) = isSymbol (n : Int) := by
  rw [lawSigns_is, List.any_map, sym_nat]
  congr 1
  funext k
  exact one_eq k n
theorem all_snoc {P : Int → Prop} {pre : List Int} {n : Int} (h : ∀ c ∈ pre, P c) (hn : P n) : ∀ c ∈ pre ++ [n], P c := by
  intro c hc
  rcases List.mem_append.mp hc with hc | hc
  · exact h c hc
  · rw [List.mem_singleton.mp hc]; exact hn
theorem sn_len {x : Str} (h3 : ∀ c ∈ KStt.codes x, isSymbol c = true) : decide (0 < (x.length : Int)) = signName x := by
  unfold signName
  rw [List.all_eq_true.mpr h3, Bool.and_true, ← KStt.codes_length]
  cases KStt.codes x with
  | nil => rfl
  | cons a b => simp
theorem is_plain_name_ok (x : Str) (t : Tok) : GivesP 108 4 [.str x t] (noNeed) (fun r => r = .bool (plainName x)) := by
  unfold GivesP
  intro prog w mean mg mb dp un gd cn cs a ccd cl outer A₀ base h₀ L m news s Q E B F X N T hk hn hdp hu hret
  k_with_none
  w_top off
  refine wpAny_call ?_
  k_dflt cell_enter
  k_steps
  all_goals (try refine retP hret (by k_asm) (by first | k_asm | (refine' cb_drop ?cbN ?cbS; (case cbN => assumption); (case cbS => kcj_all))) ?_)
  · exact congrArg Value.bool (pn1 (by assumption))
  · exact congrArg Value.bool (pn2 (by assumption))
  · exact congrArg Value.bool (pn3 (by assumption) (by assumption) (by assumption) (by assumption))
  · exact congrArg Value.bool (pn4 (by assumption) (by assumption) (by assumption) (by assumption))
  · exact congrArg Value.bool (pn5 (by assumption) (by assumption) (by assumption))
theorem law_all_signs_ok (x : Str) (t : Tok) (hx : x.length ≤ 1000) : GivesP 143 2 [.str x t] (noNeed) (fun r => r = .bool (signName x)) := by
  unfold GivesP
  intro prog w mean mg mb dp un gd cn cs a ccd cl outer A₀ base h₀ L m news s Q E B F X N T hk hn hdp hu hret
  k_with_none
  k_with "pyIter str" => (k_here; (rename Fr _ _ _ _ => lF'); (rename News _ _ _ _ => lN'); (with_unfolding_all refine' KStt.kst_text (σ := Unit) (fun _ => _) (fun _ => []) (fun _ => True) [] (fun pre _ => ∀ c ∈ pre, isSymbol c = true) () (by rfl) lF' lN' True.intro (List.forall_mem_nil _) ?kp ?_ ?_); (case kp => exact List.forall_mem_nil _); (all_goals (clear lF' lN')); (rotate_left); (intro _ kU kH kTk _ kAll kFr kNews; (try dsimp only [kstB] at kFr); (try dsimp only at kAll); (try dsimp only at kNews)); (rotate_left); (intro _ kPre kPost kN kT kU kH kTk kOwn kEq kOff _ kInv kFr kNews; (try dsimp only [kstB] at kFr); (try dsimp only at kInv); (try dsimp only at kNews)); (all_goals (try k_fold)))
  k_with "call builtin:len" => ((with_reducible show wpAny _ _ (call (Value.builtin "len") [Value.str _ _]) _ _ _); (refine len_str (by omega) ?_))
  w_top off
  refine wpAny_call ?_
  k_dflt cell_enter
  k_steps
  · (rename (List.any lawSigns _ = _) => ha)
    rw [lawSigns_any] at ha
    (rename News _ _ _ _ => N9)
    (rename Fr _ _ _ _ => F9)
    exact kst_end () F9 N9 (fun p hp => by simp [hp]) (fun p hp => by simp [hp]) rfl True.intro (List.forall_mem_nil _) (fun z h1 h2 h3 => by rename_i z; simp_all) (all_snoc kInv ha)
  · refine retP hret (by k_asm) (by first | k_asm | (refine' cb_drop ?cbN ?cbS; (case cbN => assumption); (case cbS => kcj_all))) ?_
    exact congrArg Value.bool (sn_no kEq (by rw [← lawSigns_any]; assumption))
  · refine retP hret (by k_asm) (by first | k_asm | (refine' cb_drop ?cbN ?cbS; (case cbN => assumption); (case cbS => kcj_all))) ?_
    exact congrArg Value.bool (sn_len kAll)
end Mine
end
section
namespace Mine
open PySem PySem.W PySem.Calls PyProof.Rows PySem.Spec

section
variable {prog : Program} {w : World} {A : Around} {E : Value → Shared → Prop} {s : Shared} {x y : Str} {t u : Tok} {Q : Value → Shared → Prop} {a n : Nat}
theorem one_lt (a n : Nat) : ([n] < [a]) ↔ n < a := by
  rw [List.cons_lt_cons_iff]; simp
theorem le_one (hx : x = ⟨#[a]⟩) (h : Q (.bool (decide (a ≤ n))) s) : wpAny (model prog w) A (compareOp .LtE (.str x t) (.str ⟨#[n]⟩ u)) Q E s := by
  subst hx
  refine P.le_str ?_
  have e : (!decide ([n] < [a])) = decide (a ≤ n) := by
    rw [← decide_not, decide_eq_decide, one_lt]; omega
  show Q (.bool (!decide ([n] < [a]))) s
  rw [e]; exact h
theorem le_one' (hy : y = ⟨#[a]⟩) (h : Q (.bool (decide (n ≤ a))) s) : wpAny (model prog w) A (compareOp .LtE (.str ⟨#[n]⟩ t) (.str y u)) Q E s := by
  subst hy
  refine P.le_str ?_
  have e : (!decide ([a] < [n])) = decide (n ≤ a) := by
    rw [← decide_not, decide_eq_decide, one_lt]; omega
  show Q (.bool (!decide ([a] < [n]))) s
  rw [e]; exact h
theorem ne_one (hy : y = ⟨#[a]⟩) (h : Q (.bool (decide (n ≠ a))) s) : wpAny (model prog w) A (compareOp .NotEq (.str ⟨#[n]⟩ t) (.str y u)) Q E s := by
  subst hy
  refine P.ne_str ?_
  have e : ([n] != [a]) = decide (n ≠ a) := by
    rw [Bool.eq_iff_iff]; simp
  show Q (.bool ([n] != [a])) s
  rw [e]; exact h
theorem item_one {value slice : Expr} {i : Int} {k : Nat} (hk : i = 0 + (k : Int)) (h1 : (k : Int) < x.length) (h63 : x.length ≤ 1000)
    (h : ∀ n : Nat, (KStt.codes x)[k]? = some (n : Int) → Q (.str ⟨#[n]⟩ s.toks) { s with toks := s.toks + 1 })
    (hs : subscripted slice false (.str x t) (.int i u) = operate [.str x t, .int i u] (getItem (.str x t) (.int i u)) := by with_unfolding_all rfl)
    (ht : ∀ r, letTemporaryGo value (.str x t) r = pure () := by intro _; with_unfolding_all rfl) :
    wpAny (model prog w) A (subscriptTail value slice (.str x t) (.int i u)) Q E s := by
  have hlen : x.length = x.cps.size := rfl
  have hn : x.cps[k]? = some (x.cps.getD k 0) := by
    have : k < x.cps.size := by omega
    simp [this]
  refine item_str (fitsSsize_of (N := 9223372036854775808) (by omega) (by omega) (Int.le_refl _)) (by omega) (by omega) (fun _ => ?_) hs ht
  have hc : Txt.charAt x i = some (x.cps.getD k 0) := by
    have e : i = (k : Int) := by omega
    subst e
    unfold Txt.charAt
    rw [PySem.seqIndex_of (by omega) h1, Int.toNat_natCast]
    exact hn
  have e : Txt.item x i = ⟨#[x.cps.getD k 0]⟩ := by unfold Txt.item; rw [hc]; rfl
  rw [e]
  exact h _ (KStt.code_at hn)
end
def smallN (n : Nat) : Prop := 97 ≤ n ∧ n ≤ 122
def alnumN (n : Nat) : Prop := (97 ≤ n ∧ n ≤ 122) ∨ (65 ≤ n ∧ n ≤ 90) ∨ (48 ≤ n ∧ n ≤ 57) ∨ n = 95
theorem isSmall_nat (n : Nat) : isSmall (n : Int) = true ↔ smallN n := by
  unfold isSmall smallN
  rw [Bool.and_eq_true, decide_eq_true_eq, decide_eq_true_eq]; omega
theorem isAlnum_nat (n : Nat) : isAlnum (n : Int) = true ↔ alnumN n := by
  unfold isAlnum isSmall isCapital isDigit alnumN
  simp only [Bool.or_eq_true, Bool.and_eq_true, decide_eq_true_eq]; omega
/-- the first k signs are a small letter and then letters, digits, underscores -/
def lettersTo (x : Str) (k : Nat) : Prop := ∀ i (n : Nat), i < k → (KStt.codes x)[i]? = some (n : Int) → alnumN n ∧ (i = 0 → smallN n)
theorem lettersTo_zero (x : Str) : lettersTo x 0 := fun i c h => absurd h (Nat.not_lt_zero i)
theorem lettersTo_snoc {x : Str} {pre : List Int} {v : Int} {n : Nat} (h : lettersTo x pre.length) (hc : (KStt.codes x)[pre.length]? = some (n : Int)) (ha : alnumN n) (hs : pre.length = 0 → smallN n) : lettersTo x (pre ++ [v]).length := by
  rw [List.length_append]
  intro i n' hi hc'
  by_cases e : i = pre.length
  · subst e
    rw [hc] at hc'
    have e2 : n' = n := by have := Option.some.inj hc'; omega
    subst e2
    exact ⟨ha, hs⟩
  · exact h i n' (by simp at hi; omega) hc'
theorem code_nat {x : Str} {c : Int} (h : c ∈ KStt.codes x) : ∃ n : Nat, c = n := ⟨c.toNat, by have := code_lo h; omega⟩
theorem al_no {x : Str} {k n : Nat} (hc : (KStt.codes x)[k]? = some (n : Int)) (h : ¬ (alnumN n ∧ (k = 0 → smallN n))) : false = alnumName x := by
  unfold alnumName
  cases e : KStt.codes x with
  | nil => rfl
  | cons c r =>
    show false = (isSmall c && (c :: r).all isAlnum)
    cases hb : (isSmall c && (c :: r).all isAlnum) with
    | false => rfl
    | true =>
      rw [Bool.and_eq_true] at hb
      refine absurd ⟨?_, fun k0 => ?_⟩ h
      · refine (isAlnum_nat n).mp ?_
        rw [e] at hc
        exact List.all_eq_true.mp hb.2 _ (List.mem_of_getElem? hc)
      · subst k0
        rw [e] at hc
        simp at hc
        exact (isSmall_nat n).mp (hc ▸ hb.1)
theorem al_yes {x : Str} {k : Nat} (hk : k = x.length) (h : lettersTo x k) : decide (0 < (x.length : Int)) = alnumName x := by
  subst hk
  unfold alnumName
  have hl := KStt.codes_length x
  cases e : KStt.codes x with
  | nil => rw [e] at hl; simp at hl; rw [← hl]; rfl
  | cons c r =>
    rw [e] at hl
    have hl' : r.length + 1 = x.length := hl
    have h0 : isSmall c = true := by
      obtain ⟨n, hn⟩ := code_nat (x := x) (c := c) (by rw [e]; exact List.mem_cons_self)
      have := h 0 n (by omega) (by rw [e, hn]; rfl)
      rw [hn]; exact (isSmall_nat n).mpr (this.2 rfl)
    have h1 : (c :: r).all isAlnum = true := by
      rw [List.all_eq_true]
      intro d hd
      obtain ⟨n, hn⟩ := code_nat (x := x) (c := d) (by rw [e]; exact hd)
      obtain ⟨i, hi, hd'⟩ := List.mem_iff_getElem.mp hd
      have := h i n (by rw [← hl]; exact hi) (by rw [e, ← hn, ← hd']; simp)
      rw [hn]; exact (isAlnum_nat n).mpr this.1
    show decide (0 < (x.length : Int)) = (isSmall c && (c :: r).all isAlnum)
    rw [h0, h1]
    simp; omega

theorem slash_cps : (Str.ofString "/*").cps.toList = [47, 42] := by decide +kernel
theorem cut2_starts (x : Str) : (Txt.slice x none (some 2) != Str.ofString "/*") = !Txt.startswith x (Str.ofString "/*") := by
  have hl2 : (Str.ofString "/*").length = 2 := by decide +kernel
  have hxl : x.length = x.cps.toList.length := by simp [Str.length]
  unfold Txt.startswith
  rw [hl2]
  show (!(Txt.slice x none (some 2) == Str.ofString "/*")) = _
  congr 1
  by_cases h : 2 ≤ x.length
  · have e := slice_closes_toL (x := x) (j := 2) (by omega) (by omega)
    rw [eq_of_beq e, StrLaws.subAt_eq, hl2, decide_eq_true (by omega : 0 + 2 ≤ x.length), Bool.true_and]
    rw [Bool.eq_iff_iff]
    simp only [beq_iff_eq]
    constructor
    · intro h; rw [← h]; simp
    · intro h
      refine Str.ext' (Array.toList_inj.mp ?_)
      simpa using h
  · have e := (fact_slice_ns x 2).2 (by omega)
    rw [decide_eq_false (by omega : ¬ 0 + 2 ≤ x.length), Bool.false_and, beq_eq_false_iff_ne]
    intro hc
    rw [hc, hl2] at e
    omega
theorem plain_law (x : Str) : plainName x = ((x == Str.ofString "[]") || (x == Str.ofString "{}") || (x == Str.ofString "!") || (x == Str.ofString ";") || alnumName x || (signName x && (x != Str.ofString ".") && (Txt.slice x none (some 2) != Str.ofString "/*"))) := by
  rw [cut2_starts]
  unfold plainName
  simp only [List.any_cons, List.any_nil, Bool.or_false, Bool.or_assoc]
  rw [Bool.beq_comm (a := Str.ofString "[]"), Bool.beq_comm (a := Str.ofString "{}"), Bool.beq_comm (a := Str.ofString "!"), Bool.beq_comm (a := Str.ofString ";")]
end Mine
end
section
namespace Mine
open PySem PySem.W PySem.Calls PyProof.Rows PySem.Spec
theorem fill6 (w : World) : (PySem.Challenge.rw_ok0003_01 = PySem.Challenge.rw_ok0003_01) → (hd.heap_39 w.params) = hd.heap_39 w.params → True := by
  k_fill
  intros; trivial
local macro_rules | `(tactic| walk_at "pyIter ref") => `(tactic| k_extra "pyIter ref")
local macro_rules | `(tactic| walk_at "pyIter str") => `(tactic| k_extra "pyIter str")
local macro_rules | `(tactic| walk_at "eval ListComp") => `(tactic| k_extra "eval ListComp")
local macro_rules | `(tactic| walk_at "SrcT") => `(tactic| k_extra "SrcT")
local macro_rules | `(tactic| walk_at "CompSrc") => `(tactic| k_extra "CompSrc")
local macro_rules | `(tactic| walk_at "CompEnd") => `(tactic| k_extra "CompEnd")
local macro_rules | `(tactic| walk_at "call builtin:len") => `(tactic| k_extra "call builtin:len")
local macro_rules | `(tactic| walk_at "call builtin:str.join") => `(tactic| k_extra "call builtin:str.join")
local macro_rules | `(tactic| walk_at "InvEndN") => `(tactic| k_extra "InvEndN")
local macro_rules | `(tactic| walk_at "subscriptTail Name Name str int") => `(tactic| k_extra "subscriptTail Name Name str int")
local macro_rules | `(tactic| walk_at "compareOp LtE str str") => `(tactic| k_extra "compareOp LtE str str")
local macro_rules | `(tactic| walk_at "compareOp NotEq str str") => `(tactic| k_extra "compareOp NotEq str str")
theorem law_letters_ok (x : Str) (t : Tok) (hx : x.length ≤ 1000) : GivesP 136 2 [.str x t] (noNeed) (fun r => r = .bool (alnumName x)) := by
  unfold GivesP
  intro prog w mean mg mb dp un gd cn cs a ccd cl outer A₀ base h₀ L m news s Q E B F X N T hk hn hdp hu hret
  k_with_none
  k_with "pyIter ref" => (k_here; (rename Fr _ _ _ _ => lF'); (rename News _ _ _ _ => lN'); (rename IsRange _ _ _ _ _ _ _ _ => rgX); (with_unfolding_all refine' kst_range (σ := Unit) (fun _ => news) (fun _ => []) (fun _ => True) [Str.ofString "mark", Str.ofString "small"] (fun pre _ => lettersTo x pre.length) () (by rfl) rgX (by first | exact small_one (by omega) (by omega) (by omega) (by omega) | decide) (by first | exact rangeSize_nat _ _ | rfl) lF' lN' True.intro (List.forall_mem_nil _) ?kp ?_ ?_); (case kp => k_dflt (exact lettersTo_zero x)); (all_goals (clear lF' lN')); (rotate_left); (intro _ kU kH kTk _ kAll kFr kNews; (try dsimp only [kstB] at kFr); (try dsimp only at kAll); (try dsimp only at kNews)); (rotate_left); (intro _ kPre kN kT kU kH kTk kOwn kEq kLt kOff _ kInv kFr kNews; (try dsimp only [kstB] at kFr); (try dsimp only at kInv); (try dsimp only at kNews)); (all_goals (try k_fold)))
  k_with "call builtin:len" => ((with_reducible show wpAny _ _ (call (Value.builtin "len") [Value.str _ _]) _ _ _); (refine len_str (by omega) ?_))
  k_with "subscriptTail Name Name str int" => (k_dflt (refine item_one kEq (by omega) hx (fun n9 hc9 => ?_)))
  k_with "compareOp LtE str str" => (with_reducible (first
    | refine le_one (a := 97) (x := Str.ofString "a") (by decide +kernel) ?_
    | refine le_one (a := 65) (x := Str.ofString "A") (by decide +kernel) ?_
    | refine le_one (a := 48) (x := Str.ofString "0") (by decide +kernel) ?_
    | refine le_one' (a := 122) (y := Str.ofString "z") (by decide +kernel) ?_
    | refine le_one' (a := 90) (y := Str.ofString "Z") (by decide +kernel) ?_
    | refine le_one' (a := 57) (y := Str.ofString "9") (by decide +kernel) ?_))
  k_with "compareOp NotEq str str" => (with_reducible (refine ne_one (a := 95) (y := Str.ofString "_") (by decide +kernel) ?_))
  w_top off
  refine wpAny_call ?_
  k_dflt cell_enter
  k_steps
  all_goals first
    | (refine retP hret (by k_asm) (by first | k_asm | (refine' cb_drop ?cbN ?cbS; (case cbN => assumption); (case cbS => kcj_all))) ?_; exact congrArg Value.bool (al_no hc9 (by unfold alnumN smallN; omega)))
    | (refine retP hret (by k_asm) (by first | k_asm | (refine' cb_drop ?cbN ?cbS; (case cbN => assumption); (case cbS => kcj_all))) ?_; exact congrArg Value.bool (al_yes (by rw [rangeKs_length]; omega) kAll))
    | ((rename News _ _ _ _ => N9); (rename Fr _ _ _ _ => F9); exact kst_end () F9 N9 (fun p hp => by simp [hp]) (fun p hp => by simp [hp]) rfl True.intro (List.forall_mem_nil _) (fun z h1 h2 h3 => by rename_i z; simp_all) (lettersTo_snoc kInv hc9 (by unfold alnumN; omega) (by unfold smallN; omega)))
local macro_rules | `(tactic| walk_at "call ref") => `(tactic| (k_here; k_dflt (refine' useP ?c ?k1 ?k2 ?k3 ?k4 ?k5 ?kK ?kn ?kd ?ku ?_; (case c => first | exact law_letters_ok _ _ (by assumption) | exact law_all_signs_ok _ _ (by assumption)); (case k1 => k_asm); (case k2 => k_asm); (case k3 => k_asm); (case k4 => k_asm); (case k5 => k_asm); (case kK => first | exact rfl | assumption); (case kn => trivial); (case kd => ktr_room); (case ku => ktr_units); intro r9 h9 tk9 F9 N9 e9; (try dsimp only at e9); (first | subst e9 | (obtain ⟨t9, e9⟩ := e9; subst e9)); (try dsimp only); (try k_fold))))
theorem law_plain_ok (x : Str) (t : Tok) (hx : x.length ≤ 1000) : GivesP 150 4 [.str x t] (noNeed) (fun r => r = .bool (plainName x)) := by
  unfold GivesP
  intro prog w mean mg mb dp un gd cn cs a ccd cl outer A₀ base h₀ L m news s Q E B F X N T hk hn hdp hu hret
  k_with_none
  have hxs : x.length ≤ sizeLine := by rw [PySem.sizeLine_eq]; omega
  w_top off
  refine wpAny_call ?_
  k_dflt cell_enter
  k_steps
  all_goals (refine retP hret (by k_asm) (by first | k_asm | (refine' cb_drop ?cbN ?cbS; (case cbN => assumption); (case cbS => kcj_all))) (congrArg Value.bool ?_))
  all_goals (rw [plain_law]; simp only [*, Bool.true_or, Bool.or_true, Bool.false_or, Bool.true_and, Bool.false_and])
end Mine
end
section
namespace Mine
open PySem PySem.W PySem.Calls PyProof.Rows PySem.Spec
theorem fill7 (w : World) : (PySem.Challenge.rw_ok0003_01 = PySem.Challenge.rw_ok0003_01) → (hd.heap_39 w.params) = hd.heap_39 w.params → True := by
  k_fill
  intros; trivial
local macro_rules | `(tactic| walk_at "call ref") => `(tactic| (k_here; k_dflt (refine' useL law_signs_ok ?k1 ?k2 ?k3 ?k4 ?k5 ?kK ?kn ?kd ?ku ?_; (case k1 => k_asm); (case k2 => k_asm); (case k3 => k_asm); (case k4 => k_asm); (case k5 => k_asm); (case kK => first | exact rfl | assumption); (case kn => trivial); (case kd => ktr_room); (case ku => ktr_units); intro l9 us9 n9 h9 tk9 F9 N9 lt9 S9; (try simp only [LCg.Off1, and_true] at lt9); (try dsimp only); (try k_fold))))
local macro_rules | `(tactic| walk_at "pyIter ref") => `(tactic| k_extra "pyIter ref")
local macro_rules | `(tactic| walk_at "pyIter str") => `(tactic| k_extra "pyIter str")
local macro_rules | `(tactic| walk_at "eval ListComp") => `(tactic| k_extra "eval ListComp")
local macro_rules | `(tactic| walk_at "SrcT") => `(tactic| k_extra "SrcT")
local macro_rules | `(tactic| walk_at "CompSrc") => `(tactic| k_extra "CompSrc")
local macro_rules | `(tactic| walk_at "CompEnd") => `(tactic| k_extra "CompEnd")
local macro_rules | `(tactic| walk_at "call builtin:len") => `(tactic| k_extra "call builtin:len")
local macro_rules | `(tactic| walk_at "call builtin:str.join") => `(tactic| k_extra "call builtin:str.join")
local macro_rules | `(tactic| walk_at "InvEndN") => `(tactic| k_extra "InvEndN")
local macro_rules | `(tactic| walk_at "subscriptTail") => `(tactic| k_extra "subscriptTail")

theorem lawSigns_len : lawSigns.length = 17 := by decide +kernel
theorem fm17_lo (a : Int) : 0 ≤ a.fmod 17 := Int.fmod_nonneg_of_pos a (by decide)
theorem fm17_hi (a : Int) : a.fmod 17 < 17 := Int.fmod_lt_of_pos a (by decide)
def okText (x : Str) : Prop := ∀ c ∈ KStt.codes x, c < 1114112
def markText (x : Str) : Prop := x.length = 1 ∧ okText x
section
variable {prog : Program} {w : World} {A : Around} {E : Value → Shared → Prop} {s : Shared} {h₀ : Heap} {L : Addr} {news : List (Addr × Obj)}
theorem len_signs {a : Addr} {l : List Value} {n : Nat} {Q : Value → Shared → Prop} (N : News h₀ L s.heap news) (hm : (a, listOf l.toArray n) ∈ news) (hi : StrsAre l lawSigns)
    (h : Q (.int 17 (s.toks + 1)) { s with toks := s.toks + 1 + 1 }) : wpAny (model prog w) A (call (.builtin "len") [.ref a]) Q E s :=
  len_strsA (N.isList hm) hi (by rw [lawSigns_len]; decide) (by rw [lawSigns_len]; exact h)
theorem item_signs {value slice : Expr} {a : Addr} {l : List Value} {n : Nat} {k : Int} {u : Tok} {Q : Value → Shared → Prop} (N : News h₀ L s.heap news) (hm : (a, listOf l.toArray n) ∈ news) (hi : StrsAre l lawSigns)
    (h0 : 0 ≤ k) (hk : k < 17) (h : ∀ x t', markText x → Q (.str x t') s)
    (hs : subscripted slice false (.ref a) (.int k u) = operate [.ref a, .int k u] (getItem (.ref a) (.int k u)) := by with_unfolding_all rfl) (hg : ∀ r, letTemporaryGo value (.ref a) r = pure () := by intro _; with_unfolding_all rfl) :
    wpAny (model prog w) A (subscriptTail value slice (.ref a) (.int k u)) Q E s := by
  refine item_strsA (N.isList hm) hi h0 (by rw [lawSigns_len]; omega) (by omega) (fun t' => h _ t' ?_) hs hg
  have key : ∀ j, j < 17 → markText (lawSigns.getD j Str.empty) := by
    have k0 : ∀ j, j < 17 → ((lawSigns.getD j Str.empty).length = 1 ∧ (KStt.codes (lawSigns.getD j Str.empty)).all (· < 1114112) = true) := by decide +kernel
    intro j hj
    refine ⟨(k0 j hj).1, fun c hc => ?_⟩
    have := List.all_eq_true.mp (k0 j hj).2 c hc
    simpa using this
  exact key _ (by omega)
end
theorem item_mark {x : Str} (hx : (KStt.codes x).all (· < 1114112) = true) (i : Int) : markText (Txt.item x i) := by
  unfold Txt.item
  refine ⟨rfl, fun c hc => ?_⟩
  have hc' : c = ((Txt.charAt x i).getD 0 : Nat) := by simpa [KStt.codes] using hc
  cases e : Txt.charAt x i with
  | none => rw [e] at hc'; simp at hc'; omega
  | some n =>
    rw [e] at hc'
    unfold Txt.charAt at e
    obtain ⟨k, hk, hn⟩ := Option.bind_eq_some_iff.mp e
    have := List.all_eq_true.mp hx (n : Int) (by unfold KStt.codes; exact List.mem_map.mpr ⟨n, by have := Array.mem_of_getElem? hn; simpa using this, rfl⟩)
    simp at this hc'
    omega
theorem menu_mark : ∀ j : Nat, markText ([Str.ofString " ", Str.ofString "\t", Str.ofString "\n", Str.ofString "!", Str.ofString ";", Str.ofString ",", Str.ofString "(", Str.ofString "[", Str.ofString "}", Str.ofString "'", Str.ofString "é", Str.ofString "|"].getD (min j 11) Str.empty) := by
  have k0 : ∀ j, j < 12 → (([Str.ofString " ", Str.ofString "\t", Str.ofString "\n", Str.ofString "!", Str.ofString ";", Str.ofString ",", Str.ofString "(", Str.ofString "[", Str.ofString "}", Str.ofString "'", Str.ofString "é", Str.ofString "|"].getD j Str.empty).length = 1 ∧ (KStt.codes ([Str.ofString " ", Str.ofString "\t", Str.ofString "\n", Str.ofString "!", Str.ofString ";", Str.ofString ",", Str.ofString "(", Str.ofString "[", Str.ofString "}", Str.ofString "'", Str.ofString "é", Str.ofString "|"].getD j Str.empty)).all (· < 1114112) = true) := by decide +kernel
  intro j
  have hj := k0 (min j 11) (by omega)
  exact ⟨hj.1, fun c hc => by simpa using List.all_eq_true.mp hj.2 c hc⟩
theorem menu_mark' {j : Nat} (h : j < 12) : markText ([Str.ofString " ", Str.ofString "\t", Str.ofString "\n", Str.ofString "!", Str.ofString ";", Str.ofString ",", Str.ofString "(", Str.ofString "[", Str.ofString "}", Str.ofString "'", Str.ofString "é", Str.ofString "|"].getD j Str.empty) := by
  have := menu_mark j
  rwa [show min j 11 = j from by omega] at this
theorem law_mark_ok (c : Int) (t : Tok) (hc : 0 ≤ c) : GivesP 129 2 [.int c t] (noNeed) (fun r => ∃ x t', r = .str x t' ∧ markText x) := by
  unfold GivesP
  intro prog w mean mg mb dp un gd cn cs a ccd cl outer A₀ base h₀ L m news s Q E B F X N T hk hn hdp hu hret
  k_with_none
  k_with "call builtin:len" => ((rename StrsAre _ lawSigns => S9'); (k_dflt (refine len_signs (by k_asm) (by first | k_mem | k_memK) S9' ?_)))
  k_with "subscriptTail" => ((rename StrsAre _ lawSigns => S9'); (k_dflt (refine item_signs (by k_asm) (by first | k_mem | k_memK) S9' (by first | omega | exact fm17_lo _) (by first | omega | exact fm17_hi _) ?_)); intro x9 t9 ok9)
  w_top off
  refine wpAny_call ?_
  k_dflt cell_enter
  k_steps
  all_goals (refine retP hret (by k_asm) (by first | k_asm | (refine' cb_drop ?cbN ?cbS; (case cbN => assumption); (case cbS => kcj_all))) ⟨_, _, rfl, ?_⟩)
  all_goals first
    | assumption
    | exact item_mark (by decide +kernel) _
    | (refine menu_mark' ?_; assumption)
end Mine
end
section
namespace Mine
open PySem PySem.W PySem.Calls PyProof.Rows PySem.Spec
theorem fill8 (w : World) : (PySem.Challenge.rw_ok0003_01 = PySem.Challenge.rw_ok0003_01) → (hd.heap_39 w.params) = hd.heap_39 w.params → True := by
  k_fill
  intros; trivial
local macro_rules | `(tactic| walk_at "call builtin:list.append") => `(tactic| k_extra "call builtin:list.append")
local macro_rules | `(tactic| walk_at "exec While") => `(tactic| k_extra "exec While")
local macro_rules | `(tactic| walk_at "exec While BoolOp cons nil") => `(tactic| k_extra "exec While")
local macro_rules | `(tactic| walk_at "pyIter ref") => `(tactic| k_extra "pyIter ref")
local macro_rules | `(tactic| walk_at "binaryOp Add str str") => `(tactic| k_extra "binaryOp Add str str")
local macro_rules | `(tactic| walk_at "call ref") => `(tactic| (k_here; k_dflt (refine' useP (law_mark_ok _ _ ?q) ?k1 ?k2 ?k3 ?k4 ?k5 ?kK ?kn ?kd ?ku ?_; (case q => omega); (case k1 => k_asm); (case k2 => k_asm); (case k3 => k_asm); (case k4 => k_asm); (case k5 => k_asm); (case kK => first | exact rfl | assumption); (case kn => trivial); (case kd => ktr_room); (case ku => ktr_units); intro r9 h9 tk9 F9 N9 e9; obtain ⟨x9, t9, e9, ok9⟩ := e9; subst e9; (try dsimp only); (try k_fold))))

def needScript (l : Addr) (vs : List Value) (base : Heap) (_ : List (Addr × Obj)) : Prop := base.IsList l vs.toArray
def goodTexts (xs : List Str) : Prop := xs.length ≤ 1000 ∧ ∀ x ∈ xs, x.length ≤ 1000 ∧ okText x
def startTexts : List Str := [Str.ofString "[]", Str.ofString "{}", Str.ofString "!", Str.ofString ";", Str.ofString "", Str.ofString ".", Str.ofString "/*", Str.ofString "*/", Str.ofString "a", Str.ofString "B", Str.ofString "_", Str.ofString "x_1", Str.ofString "[", Str.ofString "+."]
theorem start_all : ∀ x ∈ startTexts, x.length ≤ 1000 ∧ okText x := by
  have k0 : startTexts.all (fun x => decide (x.length ≤ 1000) && (KStt.codes x).all (· < 1114112)) = true := by decide +kernel
  intro x hx
  have := List.all_eq_true.mp k0 x hx
  rw [Bool.and_eq_true, decide_eq_true_eq] at this
  exact ⟨this.1, fun c hc => by simpa using List.all_eq_true.mp this.2 c hc⟩
theorem start_ok : 1 ≤ (1 : Int) ∧ (1 : Int) ≤ 100 ∧ (([Str.ofString "[]", Str.ofString "{}", Str.ofString "!", Str.ofString ";", Str.ofString "", Str.ofString ".", Str.ofString "/*", Str.ofString "*/", Str.ofString "a", Str.ofString "B", Str.ofString "_", Str.ofString "x_1", Str.ofString "[", Str.ofString "+."] : List Str).length : Int) ≤ 1 + 13 ∧ ∀ x ∈ ([Str.ofString "[]", Str.ofString "{}", Str.ofString "!", Str.ofString ";", Str.ofString "", Str.ofString ".", Str.ofString "/*", Str.ofString "*/", Str.ofString "a", Str.ofString "B", Str.ofString "_", Str.ofString "x_1", Str.ofString "[", Str.ofString "+."] : List Str), x.length ≤ 1000 ∧ okText x :=
  ⟨by decide, by decide, by simp, start_all⟩
theorem codes_append (x y : Str) : KStt.codes (x ++ y) = KStt.codes x ++ KStt.codes y := by
  unfold KStt.codes
  rw [Str.cps_append, Array.toList_append, List.map_append]
theorem okText_append {x y : Str} (hx : okText x) (hy : okText y) : okText (x ++ y) := by
  intro c hc
  rw [codes_append] at hc
  rcases List.mem_append.mp hc with h | h
  · exact hx c h
  · exact hy c h
theorem inner_start {a : Int} : a = a + (([] : List Int).length : Int) ∧ (Str.ofString "").length = ([] : List Int).length ∧ okText (Str.ofString "") :=
  ⟨by simp, by decide +kernel, by
    intro c hc
    rw [show KStt.codes (Str.ofString "") = [] from by decide +kernel] at hc
    cases hc⟩
theorem inner_step {a b k : Int} {pre : List Int} {text x : Str} (h1 : b = a + (pre.length : Int)) (h2 : text.length = pre.length) (h3 : okText text) (hx : markText x) :
    b + 1 = a + ((pre ++ [k]).length : Int) ∧ (text ++ x).length = (pre ++ [k]).length ∧ okText (text ++ x) := by
  refine ⟨by rw [List.length_append, List.length_singleton]; omega, by rw [Str.length_append, List.length_append, hx.1, h2]; rfl, okText_append h3 hx.2⟩
theorem outer_step {texts : List Str} {text : Str} {a b : Int} (h2 : (texts.length : Int) ≤ a + 13) (h3 : ∀ x ∈ texts, x.length ≤ 1000 ∧ okText x) (ht : text.length ≤ 1000) (hk : okText text) (hs : a ≤ b) (h1 : 1 ≤ a) (hb : b ≤ 99) :
    1 ≤ b + 1 ∧ b + 1 ≤ 100 ∧ ((texts ++ [text]).length : Int) ≤ b + 1 + 13 ∧ ∀ x ∈ texts ++ [text], x.length ≤ 1000 ∧ okText x := by
  refine ⟨by omega, by omega, by rw [List.length_append, List.length_singleton]; omega, fun x hx => ?_⟩
  rcases List.mem_append.mp hx with h | h
  · exact h3 x h
  · rw [List.mem_singleton.mp h]; exact ⟨ht, hk⟩
theorem lt_fm {k : Nat} {a : Int} (h : k < (a.fmod 10 - 0).toNat) : k < 10 := by
  have := Int.fmod_lt_of_pos a (b := 10) (by decide)
  omega
theorem fm_len {n : Nat} {a : Int} (h : n = (rangeKs 0 (a.fmod 10 - 0).toNat).length) : n < 10 ∧ (rangeKs 0 (a.fmod 10 - 0).toNat).length < 10 := by
  have := Int.fmod_lt_of_pos a (b := 10) (by decide)
  rw [rangeKs_length] at h ⊢
  omega
theorem law_texts_ok (l : Addr) (vs : List Value) (ns : List Int) (hi : IntsAre vs ns) (hlen : ns.length ≤ 63) : GivesL 122 4 [.ref l] (needScript l vs) (fun us => ∃ xs, StrsAre us xs ∧ goodTexts xs) := by
  unfold GivesL
  intro prog w mean mg mb dp un gd cn cs a ccd cl outer A₀ base h₀ L m news s Q E B F X N T hk hn hdp hu hret
  have hl : base.IsList l vs.toArray := hn
  k_with_none
  k_with "exec While" => k_dflt (k_while (fun script spot texts => 1 ≤ spot ∧ spot ≤ 100 ∧ (texts.length : Int) ≤ spot + 13 ∧ ∀ x ∈ texts, x.length ≤ 1000 ∧ okText x) (fun script spot texts => (1000 - spot).toNat) "spot" "texts")
  k_with "pyIter ref" => (k_dflt (k_state_given ["spot!"] (fun spot₀ pre spot text => spot = spot₀ + (pre.length : Int) ∧ text.length = pre.length ∧ okText text) "spot" "text"); (all_goals (first | (have h10 := lt_fm kLt) | (have h10 := fm_len (by assumption); obtain ⟨h10, h11⟩ := h10))))
  k_with "binaryOp Add str str" => ((rename markText _ => ok9); k_dflt (refine SB.add (fun t9 k9 => ?_) (by have h1 := ok9.1; rw [PySem.sizeLine_eq]; omega)))
  k_with "call builtin:list.append" => (k_dflt (refine append_K (by k_asm) (by k_asm) (by k_upd) ?_ (by ((rw [PySem.sizeLine_eq]); (try simp only [Array.size_push, List.size_toArray]); omega))); intro h9 F9 N9)
  k_with "state" => (with_reducible exact start_ok)
  k_with "state" => (with_reducible exact inner_start)
  k_with "state" => (with_reducible exact inner_step (by assumption) (by assumption) (by assumption) (by assumption))
  k_with "state" => (with_reducible exact outer_step (by assumption) (by assumption) (by omega) (by assumption) (by omega) (by omega) (by omega))
  w_top off
  refine wpAny_call ?_
  k_dflt cell_enter
  k_steps
  all_goals (refine hret _ _ _ _ _ (by k_asm) (by first | k_asm | (refine' cb_drop ?cbN ?cbS; (case cbN => assumption); (case cbS => kcj_all))) (off1_lt (by assumption)) ⟨_, by assumption, by omega, by assumption⟩)
end Mine
end
section
/-! a list read backwards by str.join -/
namespace Mine
open PySem PySem.W PySem.Calls PyProof.Rows PySem.Spec
open PySem.Builtin PySem.Builtin.Str PySem.Builtin.Int
theorem nolen_rev : typeLookup (.type "list_reverseiterator") "__len__" = pure none := by rw [typeLookup_type, builtinLookup_eq_fast]; kernel_rfl
theorem hint_rev : typeLookup (.type "list_reverseiterator") "__length_hint__" = pure (some (.builtin "list_reverseiterator.__length_hint__")) := by rw [typeLookup_type, builtinLookup_eq_fast]; kernel_rfl
section
variable {prog : Program} {w : World} {A : Around} {E : Value → Shared → Prop} {s : Shared}
theorem hint_silent {I : Addr} {Q : Bool → Shared → Prop} (hT : s.TypeIs (.ref I) "list_reverseiterator") (hQ : Q false s) : wpAny (model prog w) A (Builtin.List.listLengthHint (.ref I)) Q E s := by
  unfold Builtin.List.listLengthHint
  refine wpAny_bind (wpAny_specialOf hT nolen_rev ?_)
  show wpAny _ A (specialOf (Value.ref I) (Str.ofString "__length_hint__") >>= _) _ _ _
  refine wpAny_bind (wpAny_specialOf hT hint_rev ?_)
  (generalize hid : ("list_reverseiterator.__length_hint__" : String) = id0; (fail_if_success (clear hid id0)); wp_delta; rw [show splitId id0 = some ("list_reverseiterator", "__length_hint__") from by subst hid; decide +kernel]; subst hid)
  refine wpAny_bind (wpAny_isInstance (b := true) hT (by rw [isSubtype_type]; kernel_rfl) ?_)
  exact wpAny_pure hQ

/-- all items of a list, drawn backwards -/
theorem collect_back {I l : Addr} {items : Array Value} {Q : List Value → Shared → Prop} (hh : A.handled = none) (hit : s.heap.IsRevIter I l ((items.size : Int) - 1)) (hl : s.heap.IsList l items) (hne : l ≠ I) (hn : items.size ≤ sizeLine)
    (hQ : ∀ s' : Shared, (∀ b o, b ≠ I → s.heap.get? b = some o → s'.heap.get? b = some o) → s'.gens = s.gens → s'.drawn = s.drawn → s'.os = s.os → Q items.toList.reverse s') :
    wpAny (model prog w) A (collect (.ref I)) Q E s := by
  have W := (Walks.listRev (prog := prog) (w := w) (A := A.in1) hh I l hne items).toS
  have old : ∀ b ∈ [I, l], b < s.heap.objs.size := by
    intro b hb
    rcases List.mem_cons.mp hb with rfl | hb
    · obtain ⟨o, ho, _⟩ := hit; exact Heap.lt_size ho
    · rw [List.mem_singleton.mp hb]; obtain ⟨o, ho, _⟩ := hl; exact Heap.lt_size ho
  have hSf : s.heap.objs.size ∉ [I, l] := fun hm => Nat.lt_irrefl _ (old _ hm)
  have hSI : s.heap.objs.size ≠ I := fun e => hSf (e ▸ List.mem_cons_self)
  have st0 : (fun (i : Nat) (s : Shared) => i ≤ items.size ∧ s.heap.IsRevIter I l ((items.size : Int) - 1 - (i : Int)) ∧ s.heap.IsList l items) 0 s := ⟨Nat.zero_le _, by simpa using hit, hl⟩
  have st1 := W.frame 0 s (s.heap.push { cls := .type "list", data := .seq ([] : List Value).toArray }) s.toks st0 (Nat.le_refl _) fun b _ o e => Heap.get?_push_of_some _ e
  have hS := Heap.get?_push_size s.heap (o := { cls := .type "list", data := .seq ([] : List Value).toArray }) rfl
  have hT : ∀ (i : Nat) (s : Shared), (i ≤ items.size ∧ s.heap.IsRevIter I l ((items.size : Int) - 1 - (i : Int)) ∧ s.heap.IsList l items) → s.TypeIs (.ref I) "list_reverseiterator" := fun _ _ x => x.2.1.typeIs
  have hsame : Builtin.List.listSameRef (.ref s.heap.objs.size) (.ref I) = false := by simp [Builtin.List.listSameRef, hSI]
  unfold collect
  refine wpAny_bind (wpAny_runValue (codeAny_builtin F.entry_proto_collect ?_))
  rw [Around.under_plainId F.plain_proto_collect _]
  show wpAny _ A.in1 (newList [] >>= fun x => again (.builtin "list.__iadd__" ⟨[x, .ref I], []⟩)) _ _ s
  refine wpAny_bind (wpAny_newObj_type ?_)
  refine wpAny_pure ⟨plainId_quiet F.plain_list_iadd _, codeAny_builtin F.entry_list_iadd ?_⟩
  rw [Around.under_plainId F.plain_list_iadd _]
  show wpAny _ A.in1 (Builtin.List.listExtendWith (.ref s.heap.objs.size) (.ref I) (.ref s.heap.objs.size)) _ _ _
  unfold Builtin.List.listExtendWith
  refine wpAny_bind (wpAny_typeOf (hT 0 _ st1) ?_)
  rw [if_neg (by rw [hsame]; decide)]
  refine wpAny_bind (W.self 0 _ _ _ st1 ?_)
  refine wpAny_bind (wpAny_holding (hint_silent (hT 0 _ st1) ?_))
  rw [if_neg (by decide)]
  refine wpAny_pure ⟨plainId_quiet F.plain_extend_loop _, codeAny_extend_loopS W hn _ hSf _ items.size 0 _ _ _ rfl (Nat.zero_le _) st1 hS (ItemsOf.nil _) fun s' acc' c' hm hS' hacc => ?_⟩
  show wpAny _ A (load s.heap.objs.size >>= _) _ _ s'
  refine wpAny_bind (wpAny_load hS' (wpAny_pure ?_))
  have hm' := Moved.drop_new (o := { cls := .type "list", data := .seq ([] : List Value).toArray }) (tk := s.toks) hm (Nat.le_refl _)
  have e : acc'.toList = items.toList.reverse := by
    apply List.ext_getElem?
    intro j
    by_cases hj : j < items.size
    · have hv : acc'[j]? = some (acc'[j]'(by rw [hacc.1]; exact hj)) := Array.getElem?_eq_getElem _
      have h1 := hacc.2 j _ hv
      rw [Array.getElem?_toList, hv, List.getElem?_reverse (by simpa using hj), Array.getElem?_toList, Array.length_toList]
      exact h1.symm
    · rw [List.getElem?_eq_none (by rw [Array.length_toList, hacc.1]; omega), List.getElem?_eq_none (by simp; omega)]
  rw [e]
  exact hQ s' (fun b o hb eo => hm'.heap b o (fun h => hb (List.mem_singleton.mp h)) eo) hm'.gens hm'.drawn hm'.os

theorem StrsAre.rev {vs : List Value} {xs : List Str} (h : StrsAre vs xs) : StrsAre vs.reverse xs.reverse := by
  induction h with
  | nil => exact .nil
  | cons y t _ ih => rw [List.reverse_cons, List.reverse_cons]; exact KStt.strs_snoc ih

theorem join_back {I l : Addr} {items : Array Value} {ys : List Str} {x : Str} {t : Tok} {Q : Value → Shared → Prop} (hh : A.handled = none) (hit : s.heap.IsRevIter I l ((items.size : Int) - 1)) (hl : s.heap.IsList l items) (hne : l ≠ I) (hn : items.size ≤ sizeLine)
    (hi : StrsAre items.toList ys) (hok : (ys.reverse.map (·.length)).sum + ys.reverse.length * x.length ≤ 16777216)
    (hQ : ∀ (s' : Shared) t' k, (∀ b o, b ≠ I → s.heap.get? b = some o → s'.heap.get? b = some o) → s'.gens = s.gens → s'.drawn = s.drawn → s'.os = s.os → Q (.str (Txt.join x ys.reverse) t') { s' with toks := k }) :
    wpAny (model prog w) A (call (.builtin "str.join") [.str x t, .ref I]) Q E s := by
  refine wpAny_call (codeAny_call_builtin F.slot_str_join.plain F.entry_str_join (F.slot_str_join.check _ _ _ _ _ _ _ _ (typeIs_str _ _ _) (F.args_str_join_2 _ _) ?_))
  rw [join_tree_other]
  refine wpAny_bind (wpAny_typeOf hit.typeIs ?_)
  show wpAny _ A.in1 ((pyIter (.ref I)).tryCatch _ >>= fun it => collect it >>= fun items => joinTail x items) _ _ s
  refine wpAny_bind (wpAny_tryCatch (wpAny_pyIter_revIter hit ?_))
  refine wpAny_bind (collect_back hh hit hl hne hn fun s' k1 k2 k3 k4 => ?_)
  obtain ⟨r, hr, hy⟩ := strsAre_values (StrsAre.rev hi)
  rw [hr]
  have hok' : JoinOk x (r.map (·.1)) = true := by rw [hy]; exact joinOk_of hok
  unfold JoinOk at hok'
  rw [Bool.not_eq_true'] at hok'
  have g : Gives (joinTail x (strValues r)) (joinMade x r) := by
    have g0 := gives_joinTail x r hok'
    cases r with
    | nil => exact g0
    | cons p r => cases r with
      | nil => exact g0
      | cons q r' => exact g0
  refine g prog w A (wants Q E) s' (post_join r ⟨joinFit_length hok', fun t' k => ?_⟩)
  rw [hy]
  exact hQ s' t' k k1 k2 k3 k4
end
end Mine
end
section
/-! decimal figures: the plain law of number_text and of the law's own spelling -/
namespace Mine
open PySem PySem.W PySem.Calls PyProof.Rows PySem.Spec

def decs (n : Nat) : List Nat := (Nat.toDigits 10 n).map Char.toNat
theorem digit_nat : ∀ n, n < 10 → (Nat.digitChar n).toNat = 48 + n := by decide
theorem decs_lt {n : Nat} (h : n < 10) : decs n = [48 + n] := by
  unfold decs
  rw [Nat.toDigits_of_lt_base h]
  simp [digit_nat n h]
theorem decs_ge {n : Nat} (h : 10 ≤ n) : decs n = decs (n / 10) ++ [48 + n % 10] := by
  unfold decs
  rw [Nat.toDigits_of_base_le (by decide) h]
  simp [digit_nat (n % 10) (Nat.mod_lt _ (by decide))]
def decW : Nat → Nat → List Nat
  | 0, _ => []
  | k + 1, n => decW k (n / 10) ++ [48 + n % 10]
theorem decW_len : ∀ k n, (decW k n).length = k
  | 0, _ => rfl
  | k + 1, n => by rw [decW, List.length_append, decW_len k]; rfl
theorem decs_split : ∀ (k n : Nat), 10 ^ k ≤ n → decs n = decs (n / 10 ^ k) ++ decW k (n % 10 ^ k) := by
  intro k
  induction k with
  | zero => intro n _; simp [decW]
  | succ k ih =>
    intro n h
    have hp : 0 < 10 ^ k := Nat.pow_pos (by decide)
    have h10 : 10 ≤ n := by rw [Nat.pow_succ] at h; omega
    have hk : 10 ^ k ≤ n / 10 := by rw [Nat.pow_succ] at h; omega
    rw [decs_ge h10, ih _ hk, decW, Nat.div_div_eq_div_mul, List.append_assoc]
    have e1 : 10 * 10 ^ k = 10 ^ (k + 1) := by rw [Nat.pow_succ, Nat.mul_comm]
    have e2 : n % 10 ^ (k + 1) / 10 = n / 10 % 10 ^ k := by rw [← e1]; exact Nat.mod_mul_right_div_self ..
    have e3 : n % 10 ^ (k + 1) % 10 = n % 10 := Nat.mod_mod_of_dvd _ ⟨10 ^ k, e1.symm⟩
    rw [e1, e2, e3]
theorem decs_pad : ∀ (k n : Nat), 1 ≤ k → n < 10 ^ k → (decs n).length ≤ k ∧ List.replicate (k - (decs n).length) 48 ++ decs n = decW k n := by
  intro k
  induction k with
  | zero => intro n h; omega
  | succ k ih =>
    intro n _ hn
    by_cases h : n < 10
    · rw [decs_lt h]
      refine ⟨by simp, ?_⟩
      show List.replicate (k + 1 - 1) 48 ++ [48 + n] = decW k (n / 10) ++ [48 + n % 10]
      have z : ∀ j, decW j 0 = List.replicate j 48 := by
        intro j
        induction j with
        | zero => rfl
        | succ j ihj => rw [decW, show 0 / 10 = 0 from rfl, ihj, List.replicate_succ']
      rw [Nat.div_eq_of_lt h, z, Nat.mod_eq_of_lt h]; rfl
    · have h10 : 10 ≤ n := Nat.le_of_not_lt h
      have hk : 1 ≤ k := by
        rcases k with _ | k
        · simp at hn; omega
        · omega
      have hd : n / 10 < 10 ^ k := by rw [Nat.pow_succ] at hn; omega
      obtain ⟨h1, h2⟩ := ih (n / 10) hk hd
      rw [decs_ge h10, List.length_append, List.length_singleton]
      refine ⟨by omega, ?_⟩
      rw [show k + 1 - ((decs (n / 10)).length + 1) = k - (decs (n / 10)).length from by omega, ← List.append_assoc, h2]
      rfl
theorem decs_len {k n : Nat} (hk : 1 ≤ k) (h : n < 10 ^ k) : (decs n).length ≤ k := (decs_pad k n hk h).1
theorem decs_digits (n : Nat) : ∀ c ∈ decs n, 48 ≤ c ∧ c ≤ 57 := by
  induction n using Nat.strongRecOn with
  | _ n ih =>
    intro c hc
    by_cases h : n < 10
    · rw [decs_lt h] at hc; simp at hc; omega
    · rw [decs_ge (Nat.le_of_not_lt h)] at hc
      rcases List.mem_append.mp hc with hc | hc
      · exact ih _ (by omega) c hc
      · simp at hc; omega
theorem decs_ne (n : Nat) : decs n ≠ [] := by
  by_cases h : n < 10
  · rw [decs_lt h]; simp
  · rw [decs_ge (Nat.le_of_not_lt h)]; simp
theorem str_decs (n : Nat) : (Str.ofString (toString (n : Int))).cps.toList = decs n := by
  rw [Str.ofString_eq_toList]
  show ((Nat.repr n).toList.map Char.toNat) = _
  rw [Nat.repr_eq_ofList_toDigits, String.toList_ofList]
  rfl
theorem str_decs' {a : Int} (h : 0 ≤ a) : (Str.ofString (toString a)).cps.toList = decs a.toNat := by
  have := str_decs a.toNat
  rwa [Int.toNat_of_nonneg h] at this
/-- a text of its figures alone -/
def ofCps (l : List Nat) : Str := ⟨l.toArray⟩
theorem str_eq {x : Str} {l : List Nat} (h : x.cps.toList = l) : x = ofCps l := Str.ext' (Array.toList_inj.mp (by rw [h]; rfl))
theorem str_len {x : Str} {l : List Nat} (h : x.cps.toList = l) : x.length = l.length := by
  rw [← h]; simp [Str.length]

/-- the texts joined from the last to the first -/
def catRev (xs : List Str) : List Nat := xs.reverse.flatMap (·.cps.toList)
theorem catRev_nil : catRev [] = [] := rfl
theorem catRev_snoc (xs : List Str) (x : Str) : catRev (xs ++ [x]) = x.cps.toList ++ catRev xs := by
  unfold catRev
  rw [List.reverse_append]; rfl
theorem join_cat (xs : List Str) : (Txt.join (Str.ofString "") xs).cps.toList = xs.flatMap (·.cps.toList) := by
  have e : Txt.join (Str.ofString "") xs = Str.join ⟨#[]⟩ xs := by
    rw [show Str.ofString "" = ⟨#[]⟩ from by decide +kernel]
    exact StrLaws.glued_eq_join _ _
  rw [e]
  clear e
  induction xs with
  | nil => rfl
  | cons x r ih =>
    cases r with
    | nil => simp [Str.join]
    | cons y r =>
      rw [show Str.join ⟨#[]⟩ (x :: y :: r) = x ++ ⟨#[]⟩ ++ Str.join ⟨#[]⟩ (y :: r) from rfl, Str.cps_append, Str.cps_append, Array.toList_append, Array.toList_append, ih]
      simp
theorem sum_cat (xs : List Str) : (xs.map (·.length)).sum = (xs.flatMap (·.cps.toList)).length := by
  induction xs with
  | nil => rfl
  | cons x r ih => simp [Str.length] at ih ⊢; try exact ih

/-- what both spell: a sign where it is below nought, then the figures -/
def spell (v : Int) : Str := ofCps ((if v < 0 then [45] else []) ++ decs v.natAbs)
end Mine
end
section
/-! steps of the walk of number_text and of the law's spelling -/
namespace Mine
open PySem PySem.W PySem.Calls PyProof.Rows PySem.Spec

/-- a whole number of at most ninety figures -/
structure Small90 (v : Int) : Prop where
  lt : v.natAbs < 10 ^ 90
theorem log2_small {v a : Int} (hv : Small90 v) (h0 : 0 ≤ a) (h : a ≤ v.natAbs) : a.natAbs.log2 < 1920 := by
  have hv := hv.lt
  by_cases ha : a.natAbs = 0
  · rw [ha]; decide
  · refine (Nat.log2_lt ha).mpr (Nat.lt_of_le_of_lt (by omega : a.natAbs ≤ v.natAbs) (Nat.lt_trans hv ?_))
    decide +kernel
def NumInv (v : Int) (rest : Int) (pieces : List Str) : Prop := decs rest.toNat ++ catRev pieces = decs v.natAbs ∧ ∀ p ∈ pieces, p.length = 18
theorem catRev_len18 : ∀ {pieces : List Str}, (∀ p ∈ pieces, p.length = 18) → (catRev pieces).length = 18 * pieces.length := by
  intro pieces
  unfold catRev
  intro h
  have h' : ∀ p ∈ pieces.reverse, p.length = 18 := fun p hp => h p (List.mem_reverse.mp hp)
  rw [← List.length_reverse (as := pieces)]
  generalize pieces.reverse = l at h'
  clear h
  induction l with
  | nil => rfl
  | cons x r ih =>
    have hx := h' x List.mem_cons_self
    rw [List.flatMap_cons, List.length_append, ih fun p hp => h' p (List.mem_cons_of_mem _ hp), List.length_cons]
    have : x.cps.toList.length = 18 := by simpa [Str.length] using hx
    omega
theorem num_len {v a : Int} {pieces : List Str} (hv : Small90 v) (hI : NumInv v a pieces) : (pieces.length : Int) ≤ 5 := by
  have h1 := congrArg List.length hI.1
  rw [List.length_append, catRev_len18 hI.2] at h1
  have h2 := decs_len (k := 90) (by decide) hv.lt
  omega
theorem num_start {v a : Int} (hv : Small90 v) (h : a = (v.natAbs : Int)) : 0 ≤ a ∧ a ≤ (v.natAbs : Int) ∧ (([] : List Str).length : Int) ≤ 5 ∧ NumInv v a [] := by
  subst h
  refine ⟨by omega, by omega, by simp, ?_, fun p hp => nomatch hp⟩
  rw [catRev_nil, List.append_nil, Int.toNat_natCast]
theorem num_step {v a q r : Int} {pieces : List Str} {y : Str} (hv : Small90 v) (hI : NumInv v a pieces) (ha : 1000000000000000000 ≤ a) (hle : a ≤ (v.natAbs : Int)) (hq0 : 0 ≤ q) (hq1 : q < a) (hq : q.toNat = a.toNat / 1000000000000000000) (hr : r.toNat = a.toNat % 1000000000000000000)
    (hy : y.cps.toList = decW 18 r.toNat) : 0 ≤ q ∧ q ≤ (v.natAbs : Int) ∧ ((pieces ++ [y]).length : Int) ≤ 5 ∧ NumInv v q (pieces ++ [y]) := by
  have hN : NumInv v q (pieces ++ [y]) := by
    refine ⟨?_, ?_⟩
    · rw [catRev_snoc, hy, ← hI.1, hq, hr, ← List.append_assoc]
      congr 1
      have := decs_split 18 a.toNat (by show 1000000000000000000 ≤ a.toNat; omega)
      exact this.symm
    · intro p hp
      rcases List.mem_append.mp hp with h | h
      · exact hI.2 p h
      · rw [List.mem_singleton.mp h, str_len hy, decW_len]
  exact ⟨hq0, by omega, num_len hv hN, hN⟩
section
variable {prog : Program} {w : World} {A : Around} {E : Value → Shared → Prop} {s : Shared} {t u : Tok} {Q : Value → Shared → Prop} {h₀ : Heap} {L : Addr} {m : Str → Option Value} {news : List (Addr × Obj)}
theorem abs_gen {v : Int} (h : ∀ a u tk, a = (v.natAbs : Int) → Q (.int a u) { s with toks := tk }) :
    wpAny (model prog w) A (call (.builtin "abs") [.int v t]) Q E s :=
  call_abs_int fun u tk => h _ u tk (by split <;> omega)
theorem pow_lit {a n c : Int} (hn : 0 ≤ n) (hn2 : n ≤ 1000000) (ha : a.natAbs < 2 ^ 64) (hc : a ^ n.toNat = c) (h : Q (.int c s.toks) { s with toks := s.toks + 1 }) :
    wpAny (model prog w) A (binaryOp .Pow (.int a t) (.int n u)) Q E s := by
  subst hc
  exact pow_int_small hn hn2 ha h
theorem pow18 (h : Q (.int 1000000000000000000 s.toks) { s with toks := s.toks + 1 }) : wpAny (model prog w) A (binaryOp .Pow (.int 10 t) (.int 18 u)) Q E s :=
  pow_lit (by decide) (by decide) (by decide) (by decide +kernel) h
theorem divmod18 {a : Int} (F : Fr h₀ L s.heap m) (N : News h₀ L s.heap news) (ha : 0 ≤ a) (hhi : 1000000000000000000 ≤ a)
    (h : ∀ h' l q r tq tr tk, (0 ≤ q ∧ q < a ∧ q.toNat = a.toNat / 1000000000000000000) → (0 ≤ r ∧ r < 1000000000000000000 ∧ r.toNat = a.toNat % 1000000000000000000) → (∀ p ∈ news, p.1 < l) → Fr h₀ L h' m → News h₀ L h' ((l, { cls := .type "tuple", data := .seq #[.int q tq, .int r tr] }) :: news) →
      Q (.ref l) { s with toks := tk, heap := h' }) :
    wpAny (model prog w) A (call (.builtin "divmod") [.int a t, .int 1000000000000000000 u]) Q E s := by
  have e1 : a.fdiv 1000000000000000000 = a / 1000000000000000000 := Int.fdiv_eq_ediv_of_nonneg _ (by decide)
  have e2 : a.fmod 1000000000000000000 = a % 1000000000000000000 := Int.fmod_eq_emod_of_nonneg _ (by decide)
  refine divmod_N F N (by decide) (fun h' F' N' => h h' _ _ _ _ _ _ ?_ ?_ (fun p hp => Heap.lt_size (N p hp).1) F' N') (Or.inl (PyProof.noPylong_of_log2 (by decide +kernel)))
  · rw [e1]; omega
  · rw [e2]; omega
theorem str_fig {v a : Int} (hv : Small90 v) (h0 : 0 ≤ a) (hle : a ≤ (v.natAbs : Int)) (h : ∀ x : Str, x.cps.toList = decs a.toNat → Q (.str x s.toks) { s with toks := s.toks + 1 }) :
    wpAny (model prog w) A (call (.type "str") [.int a t]) Q E s :=
  P.str_of_int (log2_small hv h0 hle) (h _ (str_decs' h0))
theorem zfill18 {x : Str} {n : Nat} (hx : x.cps.toList = decs n) (hn : n < 1000000000000000000) (h : ∀ (y : Str) t' k, y.cps.toList = decW 18 n → Q (.str y t') { s with toks := k }) :
    wpAny (model prog w) A (call (.builtin "str.zfill") [.str x t, .int 18 u]) Q E s := by
  refine SC.zfill (by decide +kernel) fun t' k => h _ t' k ?_
  obtain ⟨hl, hp⟩ := decs_pad 18 n (by decide) hn
  have hxl : x.length = (decs n).length := str_len hx
  unfold Txt.zfill
  by_cases h18 : (18 : Int) ≤ x.length
  · rw [if_pos h18, hx, ← hp, show 18 - (decs n).length = 0 from by omega]; rfl
  · rw [if_neg h18]
    have hf : PySem.zfilled x (Int.toNat 18 - x.length) = PySem.Builtin.Str.padded x (Int.toNat 18 - x.length) 0 48 := by
      unfold PySem.zfilled
      have hd := decs_digits n
      cases e : x.cps[0]? with
      | none => rfl
      | some c =>
        have hc := hd c (by rw [← hx]; have := Array.mem_of_getElem? e; simpa using this)
        split
        · rename_i h1; cases h1; omega
        · rename_i h1; cases h1; omega
        · rfl
    rw [hf, ← hp, hxl]
    show (PySem.Builtin.Str.padded x (18 - (decs n).length) 0 48).cps.toList = _
    unfold PySem.Builtin.Str.padded
    simp [hx]

/-- str.join over a made list that is read backwards -/
theorem join_backK {I l : Addr} {vs : List Value} {n : Nat} {ys : List Str} {x : Str} (hh : A.handled = none) (F : Fr h₀ L s.heap m) (N : News h₀ L s.heap ((I, revObj l ((vs.length : Int) - 1)) :: news)) (hm : (l, listOf vs.toArray n) ∈ news) (off : ∀ p ∈ news, p.1 < I)
    (hS : StrsAre vs ys) (hx : x.length = 0) (hwn : (ys.flatMap (·.cps.toList)).length ≤ 10000 ∧ ys.length ≤ 10000)
    (h : ∀ h' t' k, Fr h₀ L h' m → News h₀ L h' news → Q (.str (Txt.join x ys.reverse) t') { s with heap := h', toks := k }) :
    wpAny (model prog w) A (call (.builtin "str.join") [.str x t, .ref I]) Q E s := by
  obtain ⟨hw, hn⟩ := hwn
  have hI := N _ List.mem_cons_self
  have hne : ∀ p ∈ news, p.1 ≠ I := fun p hp => Nat.ne_of_lt (off p hp)
  have hlen : vs.length = ys.length := StrsAre.len hS
  have hrl : (ys.reverse.map (·.length)).sum = (ys.flatMap (·.cps.toList)).length := by
    rw [← sum_cat, List.map_reverse, List.sum_reverse_nat]
  refine join_back (items := vs.toArray) hh ⟨_, hI.1, rfl, by rw [List.size_toArray]; rfl⟩ (N.isList (List.mem_cons_of_mem _ hm)) (hne _ hm) (by rw [List.size_toArray, hlen, PySem.sizeLine_eq]; omega) (by rw [List.toList_toArray]; exact hS) ?_ ?_
  · rw [hrl, hx]; omega
  · intro s' t' k k1 k2 k3 k4
    have hk : ∀ b o, b ∉ [I] → s.heap.get? b = some o → s'.heap.get? b = some o := fun b o hb e => k1 b o (fun h => hb (by simp [h])) e
    have e : ({ s' with toks := k } : Shared) = { s with heap := s'.heap, toks := k } := by
      cases s'; cases s; simp_all
    rw [e]
    exact h s'.heap t' k (LCg.fr_but F hk (fun h => hI.2.1 h.symm) hI.2.2) (LCg.news_but (fun p hp => N p (List.mem_cons_of_mem _ hp)) hk hne)
theorem allLt_to {d : Addr} : ∀ {l : List (Addr × Obj)}, AllLt d l → ∀ p ∈ l, p.1 < d
  | [], _, p, h => nomatch h
  | q :: r, x, p, h => by
    rcases List.mem_cons.mp h with rfl | h
    · exact x.1
    · exact allLt_to x.2 p h
theorem num_end_pos {v a : Int} {pieces : List Str} {x : Str} (hv : Small90 v) (hI : NumInv v a pieces) (hx : x.cps.toList = decs a.toNat) (h0 : ¬ v < 0) :
    Txt.join (Str.ofString "") (pieces ++ [x]).reverse = spell v := by
  refine str_eq ?_
  rw [join_cat]
  show catRev (pieces ++ [x]) = _
  rw [catRev_snoc, hx, hI.1, if_neg h0]; rfl
theorem num_end_neg {v a : Int} {pieces : List Str} {x : Str} (hv : Small90 v) (hI : NumInv v a pieces) (hx : x.cps.toList = decs a.toNat) (h0 : v < 0) :
    Txt.join (Str.ofString "") (pieces ++ [x] ++ [Str.ofString "-"]).reverse = spell v := by
  refine str_eq ?_
  rw [join_cat]
  show catRev (pieces ++ [x] ++ [Str.ofString "-"]) = _
  rw [catRev_snoc, catRev_snoc, hx, hI.1, if_pos h0, show (Str.ofString "-").cps.toList = [45] from by decide +kernel]
theorem num_weight {v a : Int} {pieces : List Str} {x : Str} (hv : Small90 v) (hI : NumInv v a pieces) (hx : x.cps.toList = decs a.toNat) : ((pieces ++ [x]).flatMap (·.cps.toList)).length ≤ 90 ∧ pieces.length ≤ 5 := by
  have h1 := congrArg List.length hI.1
  have h2 := decs_len (k := 90) (by decide) hv.lt
  have h3 := num_len hv hI
  have h4 : (pieces.flatMap (·.cps.toList)).length = (catRev pieces).length := by
    unfold catRev
    rw [← sum_cat, ← sum_cat, List.map_reverse, List.sum_reverse_nat]
  rw [List.length_append] at h1
  refine ⟨?_, by omega⟩
  rw [List.flatMap_append, List.length_append, h4]
  simp only [List.flatMap_cons, List.flatMap_nil, List.append_nil, hx]
  omega
theorem num_w1 {v a : Int} {pieces : List Str} {x : Str} (hv : Small90 v) (hI : NumInv v a pieces) (hx : x.cps.toList = decs a.toNat) : ((pieces ++ [x]).flatMap (·.cps.toList)).length ≤ 10000 ∧ (pieces ++ [x]).length ≤ 10000 := by
  have h := num_weight hv hI hx
  refine ⟨by omega, by simp only [List.length_append, List.length_cons, List.length_nil]; omega⟩
theorem num_w2 {v a : Int} {pieces : List Str} {x : Str} (hv : Small90 v) (hI : NumInv v a pieces) (hx : x.cps.toList = decs a.toNat) : ((pieces ++ [x] ++ [Str.ofString "-"]).flatMap (·.cps.toList)).length ≤ 10000 ∧ (pieces ++ [x] ++ [Str.ofString "-"]).length ≤ 10000 := by
  have h := num_weight hv hI hx
  have e9 : ([Str.ofString "-"].flatMap (·.cps.toList)).length = 1 := by decide +kernel
  refine ⟨?_, by simp only [List.length_append, List.length_cons, List.length_nil]; omega⟩
  rw [List.flatMap_append, List.length_append]; omega
end
end Mine
end
section
namespace Mine
open PySem PySem.W PySem.Calls PyProof.Rows PySem.Spec
theorem fill9 (w : World) : (PySem.Challenge.rw_ok0003_01 = PySem.Challenge.rw_ok0003_01) → (hd.heap_39 w.params) = hd.heap_39 w.params → True := by
  k_fill
  intros; trivial
local macro_rules | `(tactic| walk_at "exec While") => `(tactic| k_extra "exec While")
local macro_rules | `(tactic| walk_at "call builtin:abs") => `(tactic| k_extra "call builtin:abs")
local macro_rules | `(tactic| walk_at "binaryOp Pow int int") => `(tactic| k_extra "binaryOp Pow int int")
local macro_rules | `(tactic| walk_at "call builtin:divmod") => `(tactic| k_extra "call builtin:divmod")
local macro_rules | `(tactic| walk_at "call type:str") => `(tactic| k_extra "call type:str")
local macro_rules | `(tactic| walk_at "call builtin:str.zfill") => `(tactic| k_extra "call builtin:str.zfill")
local macro_rules | `(tactic| walk_at "call builtin:str.join") => `(tactic| k_extra "call builtin:str.join")
local macro_rules | `(tactic| walk_at "call builtin:list.append") => `(tactic| k_extra "call builtin:list.append")
local macro_rules | `(tactic| walk_at "exec While Compare cons nil") => `(tactic| k_extra "exec While")
theorem number_text_ok (v : Int) (t : Tok) (hv : Small90 v) : GivesP 87 2 [.int v t] (noNeed) (fun r => ∃ t', r = .str (spell v) t') := by
  unfold GivesP
  intro prog w mean mg mb dp un gd cn cs a ccd cl outer A₀ base h₀ L m news s Q E B F X N T hk hn hdp hu hret
  k_with_none
  have hI0 : IntsAre [] [] := .nil
  k_with "call builtin:abs" => (with_reducible refine abs_gen ?_; intro _ _ _ _)
  k_with "exec While" => k_dflt (k_while (fun script rest pieces => 0 ≤ rest ∧ rest ≤ v.natAbs ∧ (pieces.length : Int) ≤ 5 ∧ NumInv v rest pieces) (fun script rest pieces => rest.toNat) "rest" "pieces$")
  k_with "state" => (with_reducible exact num_start hv (by assumption))
  k_with "state" => (with_reducible exact num_step hv (by assumption) (by assumption) (by assumption) (by assumption) (by assumption) (by assumption) (by assumption) (by assumption))
  k_with "call builtin:list.append" => (k_dflt (refine append_K (by k_asm) (by k_asm) (by k_upd) ?_ (by ((rw [PySem.sizeLine_eq]); (try simp only [Array.size_push, List.size_toArray]); omega))); intro h9 F9 N9)
  k_with "binaryOp Pow int int" => (with_reducible refine pow18 ?_)
  k_with "call builtin:divmod" => (k_dflt (refine divmod18 (by k_asm) (by k_asm) (by omega) (by omega) ?_); intro h9 l9 q9 r9 tq9 tr9 tk9 hq9 hr9 l1 F9 N9; obtain ⟨hq1, hq2, hq3⟩ := hq9; obtain ⟨hr1, hr2, hr3⟩ := hr9; (try k_lt l1))
  k_with "call type:str" => (with_reducible refine str_fig hv (by omega) (by omega) ?_; intro x9 hx9)
  k_with "call builtin:str.join" => ((rename _ ∧ AllLt _ _ => l9); k_dflt (refine join_backK (by rfl) (by k_asm) (by k_asm) (List.Mem.head _) (List.forall_mem_cons.mpr ⟨l9.1, allLt_to l9.2⟩) (by ((try simp only [List.concat_eq_append, Array.toList_push, List.push_toArray, List.toList_toArray]); first | exact StrsAre.append' (StrsAre.append' (by assumption) (.cons _ _ .nil)) (.cons _ _ .nil) | exact StrsAre.append' (by assumption) (.cons _ _ .nil))) (by decide +kernel) (by first | exact num_w1 hv (by assumption) (by assumption) | exact num_w2 hv (by assumption) (by assumption)) ?_); (intro h9 t9 k9 F9 N9))
  k_with "call builtin:str.zfill" => (with_reducible refine zfill18 (by assumption) (by omega) ?_; intro y9 t9 k9 hy9)
  k_with "call builtin:str.zfill" => (with_reducible refine zfill18 (by assumption) (by omega) ?_; intro y9 t9 k9 hy9)
  w_top off
  refine wpAny_call ?_
  k_dflt cell_enter
  k_steps
  all_goals (refine retP hret (by k_asm) (by first | k_asm | (refine' cb_drop ?cbN ?cbS; (case cbN => assumption); (case cbS => kcj_all))) ?_)
  · exact ⟨_, congrArg (fun z => Value.str z _) (num_end_neg hv (by assumption) (by assumption) (by assumption))⟩
  · exact ⟨_, congrArg (fun z => Value.str z _) (num_end_pos hv (by assumption) (by assumption) (by assumption))⟩
end Mine
end
section
/-! the law's own spelling, figure by figure -/
namespace Mine
open PySem PySem.W PySem.Calls PyProof.Rows PySem.Spec
def headFig (n : Nat) (k : Nat) : List Nat := if n = 0 ∧ k ≠ 0 then [] else decs n
structure SpInv (v : Int) (rest : Int) (figs : List Str) : Prop where
  eq : headFig rest.toNat figs.length ++ catRev figs = decs v.natAbs
  one : ∀ p ∈ figs, p.length = 1
  ok : ∀ p ∈ figs, PyData.strOk p = true
theorem catRev_len1 : ∀ {figs : List Str}, (∀ p ∈ figs, p.length = 1) → (catRev figs).length = figs.length := by
  intro figs
  unfold catRev
  intro h
  have h' : ∀ p ∈ figs.reverse, p.length = 1 := fun p hp => h p (List.mem_reverse.mp hp)
  rw [← List.length_reverse (as := figs)]
  generalize figs.reverse = l at h'
  clear h
  induction l with
  | nil => rfl
  | cons x r ih =>
    have hx := h' x List.mem_cons_self
    rw [List.flatMap_cons, List.length_append, ih fun p hp => h' p (List.mem_cons_of_mem _ hp), List.length_cons]
    have : x.cps.toList.length = 1 := by simpa [Str.length] using hx
    omega
theorem sp_len {v a : Int} {figs : List Str} (hv : Small90 v) (hI : SpInv v a figs) : (figs.length : Int) ≤ 90 := by
  have h1 := congrArg List.length hI.eq
  rw [List.length_append, catRev_len1 hI.one] at h1
  have h2 := decs_len (k := 90) (by decide) hv.lt
  omega
theorem sp_start {v a : Int} (h : a = (v.natAbs : Int)) : 0 ≤ a ∧ a ≤ (v.natAbs : Int) ∧ (([] : List Str).length : Int) ≤ 90 ∧ SpInv v a [] := by
  subst h
  refine ⟨by omega, by omega, by simp, ?_, (fun p hp => nomatch hp), (fun p hp => nomatch hp)⟩
  rw [catRev_nil, List.append_nil, Int.toNat_natCast]
  unfold headFig
  rw [if_neg (by simp)]
theorem sp_step {v a q : Int} {figs : List Str} {y : Str} (hv : Small90 v) (hI : SpInv v a figs) (hc : 0 < a ∨ figs.length = 0) (hle : a ≤ (v.natAbs : Int)) (h0 : 0 ≤ a) (hq0 : 0 ≤ q) (hq1 : q ≤ a) (hq : q.toNat = a.toNat / 10)
    (hy : y.cps.toList = [48 + a.toNat % 10]) : 0 ≤ q ∧ q ≤ (v.natAbs : Int) ∧ ((figs ++ [y]).length : Int) ≤ 90 ∧ SpInv v q (figs ++ [y]) := by
  have hN : SpInv v q (figs ++ [y]) := by
    refine ⟨?_, ?_, ?_⟩
    · rw [catRev_snoc, hy, ← hI.eq, hq, ← List.append_assoc]
      congr 1
      have e1 : headFig a.toNat figs.length = decs a.toNat := by
        unfold headFig
        rw [if_neg (by omega)]
      rw [e1]
      by_cases h : a.toNat < 10
      · rw [decs_lt h, Nat.div_eq_of_lt h, Nat.mod_eq_of_lt h]
        unfold headFig
        rw [if_pos ⟨rfl, by simp⟩]; rfl
      · rw [decs_ge (Nat.le_of_not_lt h)]
        unfold headFig
        rw [if_neg (by omega)]
    · intro p hp
      rcases List.mem_append.mp hp with h | h
      · exact hI.one p h
      · rw [List.mem_singleton.mp h, str_len hy]; rfl
    · intro p hp
      rcases List.mem_append.mp hp with h | h
      · exact hI.ok p h
      · rw [List.mem_singleton.mp h]
        unfold PyData.strOk
        rw [← Array.all_toList, hy]
        simp; omega
  exact ⟨hq0, by omega, sp_len hv hN, hN⟩
theorem sp_full {v a : Int} {figs : List Str} (hI : SpInv v a figs) (h0 : 0 ≤ a) (h1 : ¬ 0 < a) (h2 : figs.length ≠ 0) : catRev figs = decs v.natAbs := by
  have e := hI.eq
  unfold headFig at e
  rw [if_pos ⟨by omega, h2⟩, List.nil_append] at e
  exact e
theorem sp_end_pos {v a : Int} {figs : List Str} (hI : SpInv v a figs) (h0 : 0 ≤ a) (h1 : ¬ 0 < a) (h2 : figs.length ≠ 0) (h : ¬ v < 0) :
    Txt.join (Str.ofString "") figs.reverse = spell v := by
  refine str_eq ?_
  rw [join_cat]
  show catRev figs = _
  rw [sp_full hI h0 h1 h2, if_neg h]; rfl
theorem sp_end_neg {v a : Int} {figs : List Str} (hI : SpInv v a figs) (h0 : 0 ≤ a) (h1 : ¬ 0 < a) (h2 : figs.length ≠ 0) (h : v < 0) :
    Txt.join (Str.ofString "") (figs ++ [Str.ofString "-"]).reverse = spell v := by
  refine str_eq ?_
  rw [join_cat]
  show catRev (figs ++ [Str.ofString "-"]) = _
  rw [catRev_snoc, sp_full hI h0 h1 h2, if_pos h, show (Str.ofString "-").cps.toList = [45] from by decide +kernel]
theorem st_canLayAll0 : ∀ ns : List Str, (∀ p ∈ ns, PyData.strOk p = true) → PyData.canLayAll0 (ns.map PyData.str) = true
  | [], _ => rfl
  | x :: r, h => by
    have h1 := h x List.mem_cons_self
    have h2 := st_canLayAll0 r fun p hp => h p (List.mem_cons_of_mem _ hp)
    simp [PyData.canLayAll0, PyData.canLay0, h1, h2]
theorem st_depthAll : ∀ ns : List Str, PyData.depthAll (ns.map PyData.str) = 0
  | [] => rfl
  | _ :: r => by simp [PyData.depthAll, PyData.depth, st_depthAll r]
theorem st_shaped (ns : List Str) (h : ∀ p ∈ ns, PyData.strOk p = true) : SeqAt.shaped (.list (ns.map PyData.str)) = true := by
  simp [SeqAt.shaped, PyData.canLay0, PyData.depth, st_canLayAll0 ns h, st_depthAll]
theorem st_sameAll : ∀ ns ms : List Str, PySem.Spec.sameAll (ns.map PyData.str) (ms.map PyData.str) = decide (ns = ms)
  | [], [] => by simp [PySem.Spec.sameAll]
  | [], _ :: _ => by simp [PySem.Spec.sameAll]
  | _ :: _, [] => by simp [PySem.Spec.sameAll]
  | a :: r, b :: t => by
    simp only [List.map_cons, PySem.Spec.sameAll, PySem.Spec.same, st_sameAll r t]
    by_cases h : a = b <;> by_cases h' : r = t <;> simp [h, h']
theorem eq_strs {prog : Program} {w : World} {A : Around} {E : Value → Shared → Prop} {s : Shared} {a b : Addr} {xs ys : List Value} {ns ms : List Str} {Q : Value → Shared → Prop}
    (ha : s.heap.IsList a xs.toArray) (hb : s.heap.IsList b ys.toArray) (hi : StrsAre xs ns) (hj : StrsAre ys ms) (hok : ∀ p ∈ ns, PyData.strOk p = true) (hok' : ∀ p ∈ ms, PyData.strOk p = true) (hu : A.units + 64 < cLine) (h : Q (.bool (decide (ns = ms))) s) :
    wpAny (model prog w) A (compareOp .Eq (.ref a) (.ref b)) Q E s := by
  refine eq_dataH_same (reads_newData ha hi.carried) (reads_newData hb hj.carried) (st_shaped _ hok) (st_shaped _ hok') hu (SeqAt.noMix_of_shape (.list .str) rfl _ _ (list_map_has fun _ => rfl) (list_map_has fun _ => rfl)) ?_
  have e : PySem.Spec.same (.list (ns.map PyData.str)) (.list (ms.map PyData.str)) = decide (ns = ms) := by
    simp only [PySem.Spec.same]; exact st_sameAll ns ms
  rw [e]; exact h
theorem eq_strs_nil {prog : Program} {w : World} {A : Around} {E : Value → Shared → Prop} {s : Shared} {a b : Addr} {xs : List Value} {ns : List Str} {Q : Value → Shared → Prop} {h₀ : Heap} {L : Addr} {news : List (Addr × Obj)} {n n' : Nat}
    (N : News h₀ L s.heap news) (ha : (a, listOf xs.toArray n) ∈ news) (hb : (b, listOf ([] : List Value).toArray n') ∈ news) (hi : StrsAre xs ns) (hok : ∀ p ∈ ns, PyData.strOk p = true) (hu : A.units + 64 < cLine) (h : Q (.bool (decide (ns.length = 0))) s) :
    wpAny (model prog w) A (compareOp .Eq (.ref a) (.ref b)) Q E s := by
  refine eq_strs (N.isList ha) (N.isList hb) hi .nil hok (fun p hp => nomatch hp) hu ?_
  have e : decide (ns = []) = decide (ns.length = 0) := by
    rw [decide_eq_decide]; exact List.length_eq_zero_iff.symm
  rw [e]; exact h
theorem sp_weight {v a : Int} {figs : List Str} (hv : Small90 v) (hI : SpInv v a figs) : (figs.flatMap (·.cps.toList)).length ≤ 90 := by
  have h1 := sp_len hv hI
  have h2 := catRev_len1 hI.one
  have h4 : (figs.flatMap (·.cps.toList)).length = (catRev figs).length := by
    unfold catRev
    rw [← sum_cat, ← sum_cat, List.map_reverse, List.sum_reverse_nat]
  omega
theorem sp_w1 {v a : Int} {figs : List Str} (hv : Small90 v) (hI : SpInv v a figs) : (figs.flatMap (·.cps.toList)).length ≤ 10000 := by
  have := sp_weight hv hI
  omega
theorem sp_w2 {v a : Int} {figs : List Str} (hv : Small90 v) (hI : SpInv v a figs) : ((figs ++ [Str.ofString "-"]).flatMap (·.cps.toList)).length ≤ 10000 := by
  have := sp_weight hv hI
  have e9 : ([Str.ofString "-"].flatMap (·.cps.toList)).length = 1 := by decide +kernel
  rw [List.flatMap_append, List.length_append]; omega
theorem join_turned {prog : Program} {w : World} {A : Around} {E : Value → Shared → Prop} {s : Shared} {t : Tok} {Q : Value → Shared → Prop} {h₀ : Heap} {L : Addr} {news : List (Addr × Obj)} {l : Addr} {its : Array Value} {n : Nat} {ys : List Str} {x : Str}
    (N : News h₀ L s.heap news) (hm : (l, listOf its.toList.reverse.toArray n) ∈ news) (hS : StrsAre its.toList ys) (hx : x.length = 0) (hw : (ys.flatMap (·.cps.toList)).length ≤ 10000)
    (h : ∀ t' k, Q (.str (Txt.join x ys.reverse) t') { s with toks := k }) :
    wpAny (model prog w) A (call (.builtin "str.join") [.str x t, .ref l]) Q E s := by
  have hrl : (ys.reverse.map (·.length)).sum = (ys.flatMap (·.cps.toList)).length := by
    rw [← sum_cat, List.map_reverse, List.sum_reverse_nat]
  exact join_list (N.isList hm) (by rw [List.toList_toArray]; exact StrsAre.rev hS) (by rw [hrl, hx]; omega) h
section
variable {prog : Program} {w : World} {A : Around} {E : Value → Shared → Prop} {s : Shared} {t u : Tok} {Q : Value → Shared → Prop} {h₀ : Heap} {L : Addr} {m : Str → Option Value} {news : List (Addr × Obj)}
theorem div10 {a : Int} (h0 : 0 ≤ a) (h : ∀ q : Int, 0 ≤ q → q ≤ a → (0 < a → q < a) → q.toNat = a.toNat / 10 → Q (.int q s.toks) { s with toks := s.toks + 1 }) : wpAny (model prog w) A (binaryOp .FloorDiv (.int a t) (.int 10 u)) Q E s := by
  have e1 : a.fdiv 10 = a / 10 := Int.fdiv_eq_ediv_of_nonneg _ (by decide)
  refine floordiv_int (by decide) (h _ ?_ ?_ ?_ ?_)
  all_goals (rw [e1]; omega)
theorem mod10 {a : Int} (h0 : 0 ≤ a) (h : ∀ r : Int, 0 ≤ r → r < 10 → r.toNat = a.toNat % 10 → Q (.int r s.toks) { s with toks := s.toks + 1 }) : wpAny (model prog w) A (binaryOp .Mod (.int a t) (.int 10 u)) Q E s := by
  have e1 : a.fmod 10 = a % 10 := Int.fmod_eq_emod_of_nonneg _ (by decide)
  refine mod_int' (by decide) (h _ ?_ ?_ ?_)
  all_goals (rw [e1]; omega)
theorem figs_codes : ∀ k, k < 10 → (KStt.codes (Str.ofString "0123456789"))[k]? = some ((48 + k : Nat) : Int) := by decide +kernel
theorem fig_item {value slice : Expr} {r : Int} (h0 : 0 ≤ r) (h1 : r < 10)
    (h : ∀ y : Str, y.cps.toList = [48 + r.toNat] → Q (.str y s.toks) { s with toks := s.toks + 1 })
    (hs : subscripted slice false (.str (Str.ofString "0123456789") t) (.int r u) = operate [.str (Str.ofString "0123456789") t, .int r u] (getItem (.str (Str.ofString "0123456789") t) (.int r u)) := by with_unfolding_all rfl)
    (ht : ∀ z, letTemporaryGo value (.str (Str.ofString "0123456789") t) z = pure () := by intro _; with_unfolding_all rfl) :
    wpAny (model prog w) A (subscriptTail value slice (.str (Str.ofString "0123456789") t) (.int r u)) Q E s := by
  have hl : (Str.ofString "0123456789").length = 10 := by decide +kernel
  refine item_one (k := r.toNat) (by omega) (by rw [hl]; omega) (by rw [hl]; omega) (fun n hn => h _ ?_) hs ht
  rw [figs_codes r.toNat (by omega)] at hn
  have : n = 48 + r.toNat := by have := Option.some.inj hn; omega
  rw [this]
end
end Mine
end
section
namespace Mine
open PySem PySem.W PySem.Calls PyProof.Rows PySem.Spec
theorem fill10 (w : World) : (PySem.Challenge.rw_ok0003_01 = PySem.Challenge.rw_ok0003_01) → (hd.heap_39 w.params) = hd.heap_39 w.params → True := by
  k_fill
  intros; trivial
local macro_rules | `(tactic| walk_at "pad") => `(tactic| fail)
local macro_rules | `(tactic| walk_at "call builtin:list.reverse") => `(tactic| k_extra "call builtin:list.reverse")
local macro_rules | `(tactic| walk_at "compareOp Eq ref ref") => `(tactic| k_extra "compareOp Eq ref ref")
local macro_rules | `(tactic| walk_at "exec While") => `(tactic| k_extra "exec While")
local macro_rules | `(tactic| walk_at "binaryOp Mod int int") => `(tactic| k_extra "binaryOp Mod int int")
local macro_rules | `(tactic| walk_at "binaryOp FloorDiv int int") => `(tactic| k_extra "binaryOp FloorDiv int int")
local macro_rules | `(tactic| walk_at "subscriptTail") => `(tactic| k_extra "subscriptTail")
local macro_rules | `(tactic| walk_at "call builtin:str.join") => `(tactic| k_extra "call builtin:str.join")
local macro_rules | `(tactic| walk_at "call builtin:list.append") => `(tactic| k_extra "call builtin:list.append")
local macro_rules | `(tactic| walk_at "exec While BoolOp cons nil") => `(tactic| k_extra "exec While")
theorem law_spelled_ok (v : Int) (t : Tok) (hv : Small90 v) : GivesP 157 14 [.int v t] (noNeed) (fun r => ∃ t', r = .str (spell v) t') := by
  unfold GivesP
  intro prog w mean mg mb dp un gd cn cs a ccd cl outer A₀ base h₀ L m news s Q E B F X N T hk hn hdp hu hret
  k_with_none
  have hI0 : IntsAre [] [] := .nil
  k_with "exec While" => k_dflt (k_while (fun script rest figures => 0 ≤ rest ∧ rest ≤ v.natAbs ∧ (figures.length : Int) ≤ 90 ∧ SpInv v rest figures) (fun script rest figures => rest.toNat + (1 - figures.length)) "rest" "figures$")
  k_with "state" => (with_reducible exact sp_start (by omega))
  k_with "state" => (with_reducible exact sp_step hv (by assumption) (by omega) (by assumption) (by assumption) (by assumption) (by assumption) (by assumption) (by assumption))
  k_with "call builtin:list.append" => (k_dflt (refine append_K (by k_asm) (by k_asm) (by k_upd) ?_ (by ((rw [PySem.sizeLine_eq]); (try simp only [Array.size_push, List.size_toArray]); omega))); intro h9 F9 N9)
  k_with "binaryOp Mod int int" => (with_reducible refine mod10 (by omega) ?_; intro r9 hr1 hr2 hr3)
  k_with "binaryOp FloorDiv int int" => (with_reducible refine div10 (by omega) ?_; intro q9 hq1 hq2 hq3 hq4)
  k_with "subscriptTail" => (with_reducible refine fig_item (by omega) (by omega) ?_; intro y9 hy9; (try rw [hr3] at hy9))
  k_with "call builtin:list.reverse" => (k_dflt (refine kl_reverse (by k_asm) (by k_asm) rfl (by k_upd) (by ((try simp only [Array.toList_push, List.concat_eq_append, List.length_append, List.length_cons, List.length_nil, List.toList_toArray]); (rw [PySem.sizeLine_eq]); omega)) ?_); (intro h9 F9 N9))
  k_with "call builtin:str.join" => (k_dflt (refine join_turned (by k_asm) (by first | exact List.Mem.head _ | exact List.Mem.tail _ (List.Mem.head _)) (by ((try simp only [List.toList_toArray, Array.toList_push, List.concat_eq_append]); first | assumption | exact StrsAre.append' (by assumption) (.cons _ _ .nil))) (by decide +kernel) (by first | exact sp_w1 hv (by assumption) | exact sp_w2 hv (by assumption)) ?_); (intro t9 k9))
  k_with "compareOp Eq ref ref" => (k_dflt (refine eq_strs_nil (by k_asm) (by first | exact List.Mem.head _ | exact List.Mem.tail _ (List.Mem.head _)) (by first | exact List.Mem.tail _ (List.Mem.head _) | exact List.Mem.head _) (by assumption) (SpInv.ok (v := v) (by assumption)) (by ktr_units) ?_))
  w_top off
  refine wpAny_call ?_
  k_dflt cell_enter
  k_steps
  all_goals (refine retP hret (by k_asm) (by first | k_asm | (refine' cb_drop ?cbN ?cbS; (case cbN => assumption); (case cbS => kcj_all))) ?_)
  · exact ⟨_, congrArg (fun z => Value.str z _) (sp_end_pos (by assumption) (by assumption) (by assumption) (by assumption) (by omega))⟩
  · exact ⟨_, congrArg (fun z => Value.str z _) (sp_end_neg (by assumption) (by assumption) (by assumption) (by assumption) (by omega))⟩
end Mine
end
section
/-! a number in a range -/
namespace Mine
open PySem PySem.W PySem.Calls PyProof.Rows PySem.Spec
section
variable {prog : Program} {w : World} {A : Around} {E : Value → Shared → Prop} {s : Shared} {r : Addr} {a b x : Int} {t u v k : Tok}
theorem place_one (a b x : Int) : (Builtin.Range.rangePlace? a b 1 x).isSome = (decide (a ≤ x) && decide (x < b)) := by
  unfold Builtin.Range.rangePlace?
  simp only [Int.emod_one, beq_self_eq_true, Bool.and_true, gt_iff_lt, show (0 : Int) < 1 from by decide, if_true]
  cases h : (decide (a ≤ x) && decide (x < b)) with
  | true => simp [h]
  | false => simp [h]
theorem range_fields {Q : Int × Int × Int → Shared → Prop} (hr : IsRange s.heap r a b 1 t u v) (h : Q (a, b, 1) s) : wpAny (model prog w) A (Builtin.Range.rangeFields (.ref r)) Q E s := by
  unfold Builtin.Range.rangeFields
  refine wpAny_bind (wpAny_field hr rfl (x := .int a t) rfl ?_)
  refine wpAny_bind (m := asInt? (.int a t)) (wpAny_pure ?_)
  refine wpAny_bind (wpAny_field hr rfl (x := .int b u) rfl ?_)
  refine wpAny_bind (m := asInt? (.int b u)) (wpAny_pure ?_)
  refine wpAny_bind (wpAny_field hr rfl (x := .int 1 v) rfl ?_)
  refine wpAny_bind (m := asInt? (.int 1 v)) (wpAny_pure ?_)
  exact wpAny_pure h
theorem range_has {P : Fin → Shared → Prop} (hr : IsRange s.heap r a b 1 t u v) (h : P (.done (.ret (.bool (decide (a ≤ x) && decide (x < b))))) s) :
    wpAny (model prog w) A (Builtin.«range.__contains__» ⟨[.ref r, .int x k], []⟩) P E s := by
  unfold Builtin.«range.__contains__»
  refine wpAny_bind (wpAny_of_eq (a := (Value.ref r, [Value.int x k])) rfl ?_)
  show wpAny _ _ (PySem.rule "range.contains.reckoned" >>= fun _ => Builtin.Range.rangeFields (.ref r) >>= _) _ _ s
  refine wpAny_bind (wpAny_rule ?_)
  refine wpAny_bind (range_fields hr ?_)
  show wpAny _ _ (ret (Value.bool (Builtin.Range.rangePlace? a b 1 x).isSome)) _ _ s
  rw [place_one]
  exact wpAny_pure h
theorem contains_range {Q : Bool → Shared → Prop} (hr : IsRange s.heap r a b 1 t u v) (h : Q (decide (a ≤ x) && decide (x < b)) s) : wpAny (model prog w) A (contains (.ref r) (.int x k)) Q E s := by
  have hT : s.TypeIs (.ref r) "range" := ⟨_, hr, rfl⟩
  unfold contains
  refine wpAny_holding ?_
  refine wpAny_bind (wpAny_specialOf hT F.slot_range_contains.lookup ?_)
  rw [if_neg (by decide)]
  exact wpAny_bind (wpAny_callSpecialUnlessNone?_slot (name := Str.ofString "__contains__") hT F.slot_range_contains
    (wpAny_call_entry F.slot_range_contains hT F.entry_range_contains (range_has hr ⟨_, rfl, wpAny_truthy_bool h⟩) (F.args_range_contains_2 _ _)))
theorem and_dec (a b x : Int) : (decide (a ≤ x) && decide (x < b)) = decide (a ≤ x ∧ x < b) := (Bool.decide_and _ _).symm
theorem in_range' {Q : Value → Shared → Prop} (hr : IsRange s.heap r a b 1 t u v) (h : Q (.bool (decide (a ≤ x ∧ x < b))) s) : wpAny (model prog w) A (compareOp .In (.int x k) (.ref r)) Q E s := by
  show wpAny _ _ (do return .bool (← contains (.ref r) (.int x k))) Q E s
  exact wpAny_bind (contains_range hr (wpAny_pure (by rw [and_dec]; exact h)))
theorem notin_range' {Q : Value → Shared → Prop} (hr : IsRange s.heap r a b 1 t u v) (h : Q (.bool (decide (¬ (a ≤ x ∧ x < b)))) s) : wpAny (model prog w) A (compareOp .NotIn (.int x k) (.ref r)) Q E s := by
  show wpAny _ _ (do return .bool !(← contains (.ref r) (.int x k))) Q E s
  exact wpAny_bind (contains_range hr (wpAny_pure (by rw [and_dec, ← decide_not]; exact h)))
theorem in_range {Q : Value → Shared → Prop} (hr : IsRange s.heap r a b 1 t u v) (h : Q (.bool (decide (a ≤ x) && decide (x < b))) s) : wpAny (model prog w) A (compareOp .In (.int x k) (.ref r)) Q E s := by
  show wpAny _ _ (do return .bool (← contains (.ref r) (.int x k))) Q E s
  exact wpAny_bind (contains_range hr (wpAny_pure h))
theorem notin_range {Q : Value → Shared → Prop} (hr : IsRange s.heap r a b 1 t u v) (h : Q (.bool !(decide (a ≤ x) && decide (x < b))) s) : wpAny (model prog w) A (compareOp .NotIn (.int x k) (.ref r)) Q E s := by
  show wpAny _ _ (do return .bool !(← contains (.ref r) (.int x k))) Q E s
  exact wpAny_bind (contains_range hr (wpAny_pure h))
theorem ne_bool_is {x y : Bool} {Q : Value → Shared → Prop} (e : x = y) (h : Q (.bool false) s) : wpAny (model prog w) A (compareOp .NotEq (.bool x) (.bool y)) Q E s := by
  subst e
  refine ne_bool ?_
  simpa using h
theorem ne_int_no {y z : Int} {Q : Value → Shared → Prop} (e : y ≠ z) (h : Q (.bool true) s) : wpAny (model prog w) A (compareOp .NotEq (.int y t) (.int z u)) Q E s := by
  refine P.ne_int ?_
  rw [show (y != z) = true from by simpa using e]; exact h
theorem lower_one {n : Nat} {Q : Value → Shared → Prop} (h : Q (.str (Txt.lower ⟨#[n]⟩) s.toks) { s with toks := s.toks + 1 }) : wpAny (model prog w) A (call (.builtin "str.lower") [.str ⟨#[n]⟩ t]) Q E s :=
  SCL.lower (by show 1 ≤ 5592405; decide) fun _ => h
theorem eq_same_str {y : Str} {Q : Value → Shared → Prop} (h : Q (.bool true) s) : wpAny (model prog w) A (compareOp .Eq (.str y t) (.str y u)) Q E s := by
  refine P.eq_str ?_
  simpa using h
end
theorem dig_is (c : Int) : isDigit c = decide (48 ≤ c ∧ c < 58) := by
  unfold isDigit; rw [← Bool.decide_and, decide_eq_decide]; omega
theorem sma_is (c : Int) : isSmall c = decide (97 ≤ c ∧ c < 123) := by
  unfold isSmall; rw [← Bool.decide_and, decide_eq_decide]; omega
theorem cap_is (c : Int) : isCapital c = decide (65 ≤ c ∧ c < 91) := by
  unfold isCapital; rw [← Bool.decide_and, decide_eq_decide]; omega
theorem alnum_is (c : Int) : isAlnum c = true ↔ (97 ≤ c ∧ c < 123) ∨ (65 ≤ c ∧ c < 91) ∨ (48 ≤ c ∧ c < 58) ∨ c = 95 := by
  unfold isAlnum
  rw [dig_is, sma_is, cap_is]
  simp only [Bool.or_eq_true, decide_eq_true_eq]; omega
theorem al1 {c : Int} (h : 48 ≤ c ∧ c < 58) : isAlnum c = decide (48 ≤ c ∧ c < 58) := by
  rw [decide_eq_true h, alnum_is]; omega
theorem al2 {c : Int} (h : 97 ≤ c ∧ c < 123) : isAlnum c = decide (97 ≤ c ∧ c < 123) := by
  rw [decide_eq_true h, alnum_is]; omega
theorem al3 {c : Int} (h : 65 ≤ c ∧ c < 91) : isAlnum c = decide (65 ≤ c ∧ c < 91) := by
  rw [decide_eq_true h, alnum_is]; omega
theorem al4 {c : Int} (h1 : ¬ (48 ≤ c ∧ c < 58)) (h2 : ¬ (97 ≤ c ∧ c < 123)) (h3 : ¬ (65 ≤ c ∧ c < 91)) : isAlnum c = (c == 95) := by
  rw [Bool.eq_iff_iff, alnum_is, beq_iff_eq]; omega
theorem lay_is (c : Int) : isLayout c = ([9, 10, 11, 12, 13, 32].any fun x => x == c) := by
  unfold isLayout
  rw [Bool.eq_iff_iff]
  simp only [List.any_cons, List.any_nil, Bool.or_false, Bool.or_eq_true, Bool.and_eq_true, decide_eq_true_eq, beq_iff_eq]
  omega
theorem codes_signs_is : lawSigns.map code1 = symNats.map Int.ofNat := by decide +kernel
theorem sym_is (c : Int) : isSymbol c = ((lawSigns.map code1).any fun x => x == c) := by
  rw [codes_signs_is]
  exact sym_cast c
theorem qu_is (c : Int) : isQuotable c = true ↔ 32 ≤ c ∧ c ≠ 127 ∧ c ≤ 1114111 := by
  unfold isQuotable
  simp only [Bool.and_eq_true, decide_eq_true_eq, Bool.not_eq_true', decide_eq_false_iff_not, and_assoc, ne_eq]
theorem qu1 {c : Int} (h : 0 ≤ c ∧ c < 32) : isQuotable c = decide (¬ (0 ≤ c ∧ c < 32)) := by
  rw [Bool.eq_iff_iff, qu_is, decide_eq_true_eq]; omega
theorem qu2 {c : Int} (h : c = 127) : isQuotable c = (c != 127) := by
  subst h; decide
theorem qu3 {c : Int} (h32 : 32 ≤ c) (h2 : c ≠ 127) : isQuotable c = decide (0 ≤ c ∧ c < 1114112) := by
  rw [Bool.eq_iff_iff, qu_is, decide_eq_true_eq]; omega
theorem dv_dig {c : Int} (h : 48 ≤ c ∧ c < 58) : digitValue c = c - 48 := by
  unfold digitValue; rw [dig_is, decide_eq_true h]; rfl
theorem dv_sma {c : Int} (h : 97 ≤ c ∧ c < 123) : digitValue c = c - 87 := by
  unfold digitValue; rw [dig_is, decide_eq_false (by omega), sma_is, decide_eq_true h]; rfl
theorem dv_cap {c : Int} (h : 65 ≤ c ∧ c < 91) : digitValue c = c - 55 := by
  unfold digitValue; rw [dig_is, decide_eq_false (by omega), sma_is, decide_eq_false (by omega), cap_is, decide_eq_true h]; rfl
theorem dv_no {c : Int} (h1 : ¬ (48 ≤ c ∧ c < 58)) (h2 : ¬ (97 ≤ c ∧ c < 123)) (h3 : ¬ (65 ≤ c ∧ c < 91)) : digitValue c = -1 := by
  unfold digitValue; rw [dig_is, decide_eq_false h1, sma_is, decide_eq_false h2, cap_is, decide_eq_false h3]; rfl
theorem dv_ends {c : Int} (h1 : ¬ (48 ≤ c ∧ c < 58)) (h2 : ¬ (97 ≤ c ∧ c < 123)) (h3 : ¬ (65 ≤ c ∧ c < 91)) : (digitValue c == -1) = true := by
  rw [dv_no h1 h2 h3]; rfl
abbrev figText : Str := Str.ofString "0123456789abcdefghijklmnopqrstuvwxyz"
theorem low_all : ∀ n : Nat, n < 123 → ((48 ≤ n ∧ n < 58 → ((KStt.codes figText)[n - 48]?.map fun k => (⟨#[k.toNat]⟩ : Str)) = some (Txt.lower ⟨#[n]⟩)) ∧ (97 ≤ n → ((KStt.codes figText)[n - 87]?.map fun k => (⟨#[k.toNat]⟩ : Str)) = some (Txt.lower ⟨#[n]⟩)) ∧ (65 ≤ n ∧ n < 91 → ((KStt.codes figText)[n - 55]?.map fun k => (⟨#[k.toNat]⟩ : Str)) = some (Txt.lower ⟨#[n]⟩))) := by decide +kernel
theorem fig_len : figText.length = 36 := by decide +kernel
theorem fig36 {prog : Program} {w : World} {A : Around} {E : Value → Shared → Prop} {s : Shared} {t u : Tok} {Q : Value → Shared → Prop} {value slice : Expr} {c : Int} (hc : (48 ≤ c ∧ c < 58) ∨ (97 ≤ c ∧ c < 123) ∨ (65 ≤ c ∧ c < 91))
    (h : Q (.str (Txt.lower ⟨#[c.toNat]⟩) s.toks) { s with toks := s.toks + 1 })
    (hs : subscripted slice false (.str figText t) (.int (digitValue c) u) = operate [.str figText t, .int (digitValue c) u] (getItem (.str figText t) (.int (digitValue c) u)) := by with_unfolding_all rfl)
    (ht : ∀ z, letTemporaryGo value (.str figText t) z = pure () := by intro _; with_unfolding_all rfl) :
    wpAny (model prog w) A (subscriptTail value slice (.str figText t) (.int (digitValue c) u)) Q E s := by
  have key := low_all c.toNat (by omega)
  have hd : 0 ≤ digitValue c ∧ digitValue c < 36 := by
    rcases hc with h | h | h
    · rw [dv_dig h]; omega
    · rw [dv_sma h]; omega
    · rw [dv_cap h]; omega
  have hk : ((KStt.codes figText)[(digitValue c).toNat]?.map fun k => (⟨#[k.toNat]⟩ : Str)) = some (Txt.lower ⟨#[c.toNat]⟩) := by
    rcases hc with h | h | h
    · rw [dv_dig h, show (c - 48).toNat = c.toNat - 48 from by omega]; exact key.1 (by omega)
    · rw [dv_sma h, show (c - 87).toNat = c.toNat - 87 from by omega]; exact key.2.1 (by omega)
    · rw [dv_cap h, show (c - 55).toNat = c.toNat - 55 from by omega]; exact key.2.2 (by omega)
  refine item_one (k := (digitValue c).toNat) (by omega) (by rw [fig_len]; omega) (by rw [fig_len]; omega) (fun n hn => ?_) hs ht
  rw [hn] at hk
  have e : (⟨#[n]⟩ : Str) = Txt.lower ⟨#[c.toNat]⟩ := Option.some.inj hk
  rw [e]; exact h
end Mine
end
section
namespace Mine
open PySem PySem.W PySem.Calls PyProof.Rows PySem.Spec
theorem fill11 (w : World) : (PySem.Challenge.rw_ok0003_01 = PySem.Challenge.rw_ok0003_01) → (hd.heap_39 w.params) = hd.heap_39 w.params → True := by
  k_fill
  intros; trivial
local macro_rules | `(tactic| walk_at "call builtin:str.lower") => `(tactic| k_extra "call builtin:str.lower")
local macro_rules | `(tactic| walk_at "compareOp NotEq int int") => `(tactic| k_extra "compareOp NotEq int int")
local macro_rules | `(tactic| walk_at "compareOp Eq str str") => `(tactic| k_extra "compareOp Eq str str")
local macro_rules | `(tactic| walk_at "compareOp In int ref") => `(tactic| k_extra "compareOp In int ref")
local macro_rules | `(tactic| walk_at "compareOp NotIn int ref") => `(tactic| k_extra "compareOp NotIn int ref")
local macro_rules | `(tactic| walk_at "compareOp NotEq bool bool") => `(tactic| k_extra "compareOp NotEq bool bool")
local macro_rules | `(tactic| walk_at "eval ListComp") => `(tactic| k_extra "eval ListComp")
local macro_rules | `(tactic| walk_at "CompSrc") => `(tactic| k_extra "CompSrc")
local macro_rules | `(tactic| walk_at "KCfEl") => `(tactic| k_extra "KCfEl")
local macro_rules | `(tactic| walk_at "subscriptTail") => `(tactic| k_extra "subscriptTail")
local macro_rules | `(tactic| walk_at "call ref") => `(tactic| (k_here; k_dflt (refine' useP ?c ?k1 ?k2 ?k3 ?k4 ?k5 ?kK ?kn ?kd ?ku ?_; (case c => first | exact is_digit_ok _ _ | exact is_small_ok _ _ | exact is_capital_ok _ _ | exact is_alnum_ok _ _ | exact is_layout_ok _ _ | exact is_symbol_ok _ _ | exact is_quotable_ok _ _ | exact digit_value_ok _ _); (case k1 => k_asm); (case k2 => k_asm); (case k3 => k_asm); (case k4 => k_asm); (case k5 => k_asm); (case kK => first | exact rfl | assumption); (case kn => trivial); (case kd => ktr_room); (case ku => ktr_units); intro r9 h9 tk9 F9 N9 e9; (try dsimp only at e9); (first | subst e9 | (obtain ⟨t9, e9⟩ := e9; subst e9)); (try dsimp only); (try k_fold))))
local macro_rules | `(tactic| walk_at "call ref") => `(tactic| (k_here; k_dflt (refine' useL law_signs_ok ?k1 ?k2 ?k3 ?k4 ?k5 ?kK ?kn ?kd ?ku ?_; (case k1 => k_asm); (case k2 => k_asm); (case k3 => k_asm); (case k4 => k_asm); (case k5 => k_asm); (case kK => first | exact rfl | assumption); (case kn => trivial); (case kd => ktr_room); (case ku => ktr_units); intro l9 us9 n9 h9 tk9 F9 N9 lt9 S9; (try simp only [LCg.Off1, and_true] at lt9); (try dsimp only); (try k_fold))))

theorem strs_at {us : List Value} {ns : List Str} (hi : StrsAre us ns) : ∀ i v, i < us.toArray.size → us.toArray[i]? = some v → ∃ a, ns[i]? = some a ∧ (a ∈ ns ∧ ∃ t, v = .str a t) := fun i v _ hv => by
  obtain ⟨k, t, e, hk⟩ := StrsAre.at hi i v (by simpa using hv)
  exact ⟨k, hk, List.mem_of_getElem? hk, t, e⟩
theorem sign_one {a : Str} (h : a ∈ lawSigns) : a.length = 1 := by
  rw [lawSigns_is] at h
  obtain ⟨k, _, rfl⟩ := List.mem_map.mp h
  rfl
theorem code_right_dig_ok (c : Int) (t : Tok) (h0 : 0 ≤ c) (h1 : c < 1114112) (hcl : 48 ≤ c ∧ c < 58) : GivesP 162 4 [.int c t] (noNeed) (fun r => r = .bool true) := by
  unfold GivesP
  intro prog w mean mg mb dp un gd cn cs a ccd cl outer A₀ base h₀ L m news s Q E B F X N T hk hn hdp hu hret
  k_with_none
  k_with "compareOp In int ref" => (k_dflt (refine in_range' (by assumption) ?_))
  k_with "compareOp NotIn int ref" => (k_dflt (refine notin_range' (by assumption) ?_))
  k_with "compareOp NotEq bool bool" => (with_reducible refine ne_bool_is (by first | exact dig_is c | exact sma_is c | exact cap_is c | exact lay_is c | exact sym_is c | exact al1 (by assumption) | exact al2 (by assumption) | exact al3 (by assumption) | exact al4 (by assumption) (by assumption) (by assumption) | exact qu1 (by omega) | exact qu2 (by omega) | exact qu3 (by omega) (by omega)) ?_)
  k_with "compareOp NotEq int int" => (with_reducible refine ne_int_no (by omega) ?_)
  k_with "call builtin:str.lower" => ((try dsimp only); (with_reducible refine lower_one ?_))
  k_with "eval ListComp" => (k_dflt (refine LCg.ListComp_U (F₀ := by k_asm) (by rfl) (by decide) (by rfl) (by decide) (by rfl) ?_))
  k_with "CompSrc" => ((rename StrsAre _ lawSigns => S9'); (refine LCg.CompSrc.ledger (by rfl) (by k_asm) (by k_asm) (by first | k_mem | exact List.Mem.head _) (by rw [List.size_toArray, StrsAre.len S9', lawSigns_len, PySem.sizeLine_eq]; omega) ?_); intro g'; (refine' rest_ints _ code1 (by rw [List.size_toArray]; exact (StrsAre.len S9').symm) (strs_at S9') (fun k' t' I' oI' C' oC' D' m' ys' h' tk' E' hk' hv' hC' hx' F' N' off' ne' => ?_) ?_); (all_goals (try (simp only [LCg.Off3, and_true] at off'))); (all_goals (try (obtain ⟨h1', t1', e1'⟩ := hv'; subst e1'; have h2' := sign_one h1'))); (all_goals (try k_fold)))
  k_with "KCfEl" => exact ⟨rfl, _, rfl⟩
  k_with "subscriptTail" => (with_reducible refine fig36 (by omega) ?_)
  k_with "compareOp Eq str str" => (with_reducible refine eq_same_str ?_)
  w_top off
  refine wpAny_call ?_
  k_dflt cell_enter
  k_steps
  all_goals ((rename News h₀ L _ _ => N9); (rename Fr h₀ L _ m => F9); refine retP hret F9 (cb_drop N9 ?_) ?_)
  all_goals first
    | (intro p hp; repeat' (first | exact hp | apply List.mem_cons_of_mem))
    | with_reducible rfl
    | exact congrArg Value.bool (dv_ends (by assumption) (by assumption) (by assumption))
theorem code_right_sma_ok (c : Int) (t : Tok) (h0 : 0 ≤ c) (h1 : c < 1114112) (hcl : 97 ≤ c ∧ c < 123) : GivesP 162 4 [.int c t] (noNeed) (fun r => r = .bool true) := by
  unfold GivesP
  intro prog w mean mg mb dp un gd cn cs a ccd cl outer A₀ base h₀ L m news s Q E B F X N T hk hn hdp hu hret
  k_with_none
  k_with "compareOp In int ref" => (k_dflt (refine in_range' (by assumption) ?_))
  k_with "compareOp NotIn int ref" => (k_dflt (refine notin_range' (by assumption) ?_))
  k_with "compareOp NotEq bool bool" => (with_reducible refine ne_bool_is (by first | exact dig_is c | exact sma_is c | exact cap_is c | exact lay_is c | exact sym_is c | exact al1 (by assumption) | exact al2 (by assumption) | exact al3 (by assumption) | exact al4 (by assumption) (by assumption) (by assumption) | exact qu1 (by omega) | exact qu2 (by omega) | exact qu3 (by omega) (by omega)) ?_)
  k_with "compareOp NotEq int int" => (with_reducible refine ne_int_no (by omega) ?_)
  k_with "call builtin:str.lower" => ((try dsimp only); (with_reducible refine lower_one ?_))
  k_with "eval ListComp" => (k_dflt (refine LCg.ListComp_U (F₀ := by k_asm) (by rfl) (by decide) (by rfl) (by decide) (by rfl) ?_))
  k_with "CompSrc" => ((rename StrsAre _ lawSigns => S9'); (refine LCg.CompSrc.ledger (by rfl) (by k_asm) (by k_asm) (by first | k_mem | exact List.Mem.head _) (by rw [List.size_toArray, StrsAre.len S9', lawSigns_len, PySem.sizeLine_eq]; omega) ?_); intro g'; (refine' rest_ints _ code1 (by rw [List.size_toArray]; exact (StrsAre.len S9').symm) (strs_at S9') (fun k' t' I' oI' C' oC' D' m' ys' h' tk' E' hk' hv' hC' hx' F' N' off' ne' => ?_) ?_); (all_goals (try (simp only [LCg.Off3, and_true] at off'))); (all_goals (try (obtain ⟨h1', t1', e1'⟩ := hv'; subst e1'; have h2' := sign_one h1'))); (all_goals (try k_fold)))
  k_with "KCfEl" => exact ⟨rfl, _, rfl⟩
  k_with "subscriptTail" => (with_reducible refine fig36 (by omega) ?_)
  k_with "compareOp Eq str str" => (with_reducible refine eq_same_str ?_)
  w_top off
  refine wpAny_call ?_
  k_dflt cell_enter
  k_steps
  all_goals ((rename News h₀ L _ _ => N9); (rename Fr h₀ L _ m => F9); refine retP hret F9 (cb_drop N9 ?_) ?_)
  all_goals first
    | (intro p hp; repeat' (first | exact hp | apply List.mem_cons_of_mem))
    | with_reducible rfl
    | exact congrArg Value.bool (dv_ends (by assumption) (by assumption) (by assumption))
theorem code_right_cap_ok (c : Int) (t : Tok) (h0 : 0 ≤ c) (h1 : c < 1114112) (hcl : 65 ≤ c ∧ c < 91) : GivesP 162 4 [.int c t] (noNeed) (fun r => r = .bool true) := by
  unfold GivesP
  intro prog w mean mg mb dp un gd cn cs a ccd cl outer A₀ base h₀ L m news s Q E B F X N T hk hn hdp hu hret
  k_with_none
  k_with "compareOp In int ref" => (k_dflt (refine in_range' (by assumption) ?_))
  k_with "compareOp NotIn int ref" => (k_dflt (refine notin_range' (by assumption) ?_))
  k_with "compareOp NotEq bool bool" => (with_reducible refine ne_bool_is (by first | exact dig_is c | exact sma_is c | exact cap_is c | exact lay_is c | exact sym_is c | exact al1 (by assumption) | exact al2 (by assumption) | exact al3 (by assumption) | exact al4 (by assumption) (by assumption) (by assumption) | exact qu1 (by omega) | exact qu2 (by omega) | exact qu3 (by omega) (by omega)) ?_)
  k_with "compareOp NotEq int int" => (with_reducible refine ne_int_no (by omega) ?_)
  k_with "call builtin:str.lower" => ((try dsimp only); (with_reducible refine lower_one ?_))
  k_with "eval ListComp" => (k_dflt (refine LCg.ListComp_U (F₀ := by k_asm) (by rfl) (by decide) (by rfl) (by decide) (by rfl) ?_))
  k_with "CompSrc" => ((rename StrsAre _ lawSigns => S9'); (refine LCg.CompSrc.ledger (by rfl) (by k_asm) (by k_asm) (by first | k_mem | exact List.Mem.head _) (by rw [List.size_toArray, StrsAre.len S9', lawSigns_len, PySem.sizeLine_eq]; omega) ?_); intro g'; (refine' rest_ints _ code1 (by rw [List.size_toArray]; exact (StrsAre.len S9').symm) (strs_at S9') (fun k' t' I' oI' C' oC' D' m' ys' h' tk' E' hk' hv' hC' hx' F' N' off' ne' => ?_) ?_); (all_goals (try (simp only [LCg.Off3, and_true] at off'))); (all_goals (try (obtain ⟨h1', t1', e1'⟩ := hv'; subst e1'; have h2' := sign_one h1'))); (all_goals (try k_fold)))
  k_with "KCfEl" => exact ⟨rfl, _, rfl⟩
  k_with "subscriptTail" => (with_reducible refine fig36 (by omega) ?_)
  k_with "compareOp Eq str str" => (with_reducible refine eq_same_str ?_)
  w_top off
  refine wpAny_call ?_
  k_dflt cell_enter
  k_steps
  all_goals ((rename News h₀ L _ _ => N9); (rename Fr h₀ L _ m => F9); refine retP hret F9 (cb_drop N9 ?_) ?_)
  all_goals first
    | (intro p hp; repeat' (first | exact hp | apply List.mem_cons_of_mem))
    | with_reducible rfl
    | exact congrArg Value.bool (dv_ends (by assumption) (by assumption) (by assumption))
theorem code_right_oth_ok (c : Int) (t : Tok) (h0 : 0 ≤ c) (h1 : c < 1114112) (hn1 : ¬ (48 ≤ c ∧ c < 58)) (hn2 : ¬ (97 ≤ c ∧ c < 123)) (hn3 : ¬ (65 ≤ c ∧ c < 91)) : GivesP 162 4 [.int c t] (noNeed) (fun r => r = .bool true) := by
  unfold GivesP
  intro prog w mean mg mb dp un gd cn cs a ccd cl outer A₀ base h₀ L m news s Q E B F X N T hk hn hdp hu hret
  k_with_none
  k_with "compareOp In int ref" => (k_dflt (refine in_range' (by assumption) ?_))
  k_with "compareOp NotIn int ref" => (k_dflt (refine notin_range' (by assumption) ?_))
  k_with "compareOp NotEq bool bool" => (with_reducible refine ne_bool_is (by first | exact dig_is c | exact sma_is c | exact cap_is c | exact lay_is c | exact sym_is c | exact al1 (by assumption) | exact al2 (by assumption) | exact al3 (by assumption) | exact al4 (by assumption) (by assumption) (by assumption) | exact qu1 (by omega) | exact qu2 (by omega) | exact qu3 (by omega) (by omega)) ?_)
  k_with "compareOp NotEq int int" => (with_reducible refine ne_int_no (by omega) ?_)
  k_with "call builtin:str.lower" => ((try dsimp only); (with_reducible refine lower_one ?_))
  k_with "eval ListComp" => (k_dflt (refine LCg.ListComp_U (F₀ := by k_asm) (by rfl) (by decide) (by rfl) (by decide) (by rfl) ?_))
  k_with "CompSrc" => ((rename StrsAre _ lawSigns => S9'); (refine LCg.CompSrc.ledger (by rfl) (by k_asm) (by k_asm) (by first | k_mem | exact List.Mem.head _) (by rw [List.size_toArray, StrsAre.len S9', lawSigns_len, PySem.sizeLine_eq]; omega) ?_); intro g'; (refine' rest_ints _ code1 (by rw [List.size_toArray]; exact (StrsAre.len S9').symm) (strs_at S9') (fun k' t' I' oI' C' oC' D' m' ys' h' tk' E' hk' hv' hC' hx' F' N' off' ne' => ?_) ?_); (all_goals (try (simp only [LCg.Off3, and_true] at off'))); (all_goals (try (obtain ⟨h1', t1', e1'⟩ := hv'; subst e1'; have h2' := sign_one h1'))); (all_goals (try k_fold)))
  k_with "KCfEl" => exact ⟨rfl, _, rfl⟩
  k_with "subscriptTail" => (with_reducible refine fig36 (by omega) ?_)
  k_with "compareOp Eq str str" => (with_reducible refine eq_same_str ?_)
  w_top off
  refine wpAny_call ?_
  k_dflt cell_enter
  k_steps
  all_goals ((rename News h₀ L _ _ => N9); (rename Fr h₀ L _ m => F9); refine retP hret F9 (cb_drop N9 ?_) ?_)
  all_goals first
    | (intro p hp; repeat' (first | exact hp | apply List.mem_cons_of_mem))
    | with_reducible rfl
    | exact congrArg Value.bool (dv_ends (by assumption) (by assumption) (by assumption))
theorem law_code_right_ok (c : Int) (t : Tok) (h0 : 0 ≤ c) (h1 : c < 1114112) : GivesP 162 4 [.int c t] noNeed (fun r => r = .bool true) := by
  by_cases k1 : 48 ≤ c ∧ c < 58
  · exact code_right_dig_ok c t h0 h1 k1
  · by_cases k2 : 97 ≤ c ∧ c < 123
    · exact code_right_sma_ok c t h0 h1 k2
    · by_cases k3 : 65 ≤ c ∧ c < 91
      · exact code_right_cap_ok c t h0 h1 k3
      · exact code_right_oth_ok c t h0 h1 k1 k2 k3
end Mine
end
section
/-! a loop over a made list, whatever its items; it keeps nothing but the frame -/
namespace Mine
open PySem PySem.W PySem.Calls PyProof.Rows PySem.Spec
section
variable {prog : Program} {w : World} {A : Around} {E : Value → Shared → Prop} {s : Shared} {env : Env} {h₀ : Heap} {x : Str} {body : List Stmt} {Q : Flow → Shared → Prop}
theorem off1_mem {l : Addr} : ∀ {news : List (Addr × Obj)}, LCg.Off1 l news → ∀ p ∈ news, p.1 ≠ l
  | [], _, p, h => nomatch h
  | q :: r, y, p, h => by
    rcases List.mem_cons.mp h with rfl | h
    · exact y.1
    · exact off1_mem y.2 p h
abbrev Keep (rest : List (Addr × Obj)) (x : Str) (stored : List Str) (m₀ : Str → Option Value) : (Str → Option Value) → List (Addr × Obj) → Prop :=
  KstS (fun _ : Unit => rest) (fun _ => []) (fun _ => True) x stored m₀ (fun _ _ => True) []
theorem loop_vals {l : Addr} {vs : List Value} {nn : Nat} {m₀ : Str → Option Value} {all rest : List (Addr × Obj)} (stored : List Str) (PV : Value → Prop)
    (hh : A.handled = none) (F : Fr h₀ env.locals s.heap m₀) (N : News h₀ env.locals s.heap all) (hm : (l, listOf vs.toArray nn) ∈ all) (sub : ∀ p ∈ rest, p ∈ all) (off : ∀ p ∈ rest, p.1 ≠ l) (hv : ∀ v ∈ vs, PV v)
    (turn : ∀ v (u : Str → Option Value) h tk own, PV v → OwnOff own (rest.map (·.1)) →
      Fr h₀ env.locals h (fun y => if y = x then some v else if stored.contains y then u y else m₀ y) → News h₀ env.locals h (rest ++ own) →
      wpAny (model prog w) A (execs body env) (InvPostN h₀ env.locals (Keep rest x stored m₀) own (rest.map (·.1)) { s with heap := h, toks := tk } Q) E { s with heap := h, toks := tk })
    (done : ∀ (u : Str → Option Value) h tk, Fr h₀ env.locals h (fun y => if y = x then u y else if stored.contains y then u y else m₀ y) → News h₀ env.locals h rest → Q .next { s with heap := h, toks := tk }) :
    wpAny (model prog w) A (pyIter (.ref l)) (fun it s₂ => LoopAtV prog w A h₀ env x body Q E it s₂) E s := by
  have hls : s.heap.IsList l vs.toArray := N.isList hm
  have hlt : l < s.heap.objs.size := Heap.lt_size (N _ hm).1
  have fresh : ∀ p ∈ rest, p.1 ≠ s.heap.objs.size := fun p hp => Nat.ne_of_lt (Heap.lt_size (N p (sub p hp)).1)
  refine wpAny_pyIter_list hls ?_
  refine loop_invN (fun _ m nx => Keep rest x stored m₀ m nx) (Walks.list (prog := prog) (w := w) hh s.heap.objs.size l (Nat.ne_of_lt hlt) vs.toArray) ?_ ?_ ?_ ?_
    ⟨⟨_, Heap.get?_push_size _ rfl, rfl, rfl⟩, hls.at fun o e => Heap.get?_push_of_some _ e⟩ (F.push _) (fun p hp => ⟨Heap.get?_push_of_some _ (N p (sub p hp)).1, (N p (sub p hp)).2⟩)
    ⟨(), rfl, trivial, List.forall_mem_nil _, fun _ _ _ _ => rfl, trivial⟩ ?_ ?_
  · intro hin
    rcases List.mem_cons.mp hin with e | hin
    · exact absurd F.ns.lt (e ▸ Nat.lt_irrefl _)
    · exact (N _ hm).2.1 (List.mem_singleton.mp hin).symm
  · intro b hb
    rw [List.mem_singleton.mp hb]
    exact next_is_new F
  · intro p hp hI
    exact fresh p hp (List.mem_singleton.mp hI)
  · intro p hp hI
    rcases List.mem_cons.mp hI with e | hI
    · exact fresh p hp e
    · exact off p hp (List.mem_singleton.mp hI)
  · rintro i v m₁ nx h tk own hi hP _ hoff ⟨c, rfl, _, h1, h2, _⟩ F₁ N₁
    have hmem : v ∈ vs := by
      have : vs[i]? = some v := by simpa using hP
      exact List.mem_of_getElem? this
    exact turn v m₁ h tk own (hv v hmem) hoff (kst_fr (ps := []) (fun p hp => nomatch hp) (fun z hz _ hc => h2 z hz (List.forall_mem_nil _) hc) F₁) N₁
  · rintro m₁ nx h tk ⟨c, rfl, _, h1, h2, _⟩ F₁ N₁
    exact done m₁ h tk (kst_frOut (ps := []) (fun p hp => nomatch hp) (fun z hz _ hc => h2 z hz (List.forall_mem_nil _) hc) F₁) N₁
theorem keep_end {rest : List (Addr × Obj)} {stored : List Str} {m₀ m' : Str → Option Value} {L : Addr} {own news' : List (Addr × Obj)} {s₁ : Shared} {h' : Heap} {tk : Nat}
    (F : Fr h₀ L h' m') (N : News h₀ L h' news') (hn : ∀ p ∈ rest ++ own, p ∈ news') (hr : ∀ z, z ≠ x → stored.contains z = false → m' z = m₀ z) :
    InvEndN h₀ L (Keep rest x stored m₀) own (rest.map (·.1)) s₁ { s₁ with heap := h', toks := tk } :=
  kst_end () F N (fun p hp => hn p (List.mem_append_left _ hp)) (fun p hp => hn p (List.mem_append_right _ hp)) rfl trivial (List.forall_mem_nil _) (fun z h1 _ h3 => hr z h1 h3) trivial
end
def PS (xs : List Str) (v : Value) : Prop := ∃ z t, v = .str z t ∧ z ∈ xs
def PI (xs : List Int) (v : Value) : Prop := ∃ z t, v = .int z t ∧ z ∈ xs
theorem vals_strs {vs : List Value} {xs : List Str} (h : StrsAre vs xs) : ∀ v ∈ vs, PS xs v := by
  intro v hv
  obtain ⟨i, hi, e⟩ := List.mem_iff_getElem.mp hv
  obtain ⟨z, t, e', hz⟩ := StrsAre.at h i v (by rw [List.getElem?_eq_getElem hi, e])
  exact ⟨z, t, e', List.mem_of_getElem? hz⟩
theorem vals_ints {vs : List Value} {xs : List Int} (h : IntsAre vs xs) : ∀ v ∈ vs, PI xs v := by
  intro v hv
  obtain ⟨i, hi, e⟩ := List.mem_iff_getElem.mp hv
  obtain ⟨z, t, e', hz⟩ := IntsAre.at h i v (by rw [List.getElem?_eq_getElem hi, e])
  exact ⟨z, t, e', List.mem_of_getElem? hz⟩
end Mine
end
section
namespace Mine
open PySem PySem.W PySem.Calls PyProof.Rows PySem.Spec

theorem not_empty_len {ns : List Int} (h : decide (ns = []) = false) (x : 0 < -(ns.length : Int) ∨ (ns.length : Int) ≤ 0) : False := by
  have h1 : ns.length ≠ 0 := fun e => of_decide_eq_false h (List.eq_nil_of_length_eq_zero e)
  omega
section
variable {prog : Program} {w : World} {A : Around} {E : Value → Shared → Prop} {s : Shared} {t u : Tok} {Q : Value → Shared → Prop} {h₀ : Heap} {L : Addr} {news : List (Addr × Obj)}
theorem len_codes {a : Addr} {l : List Value} {n : Nat} {z : Str} (N : News h₀ L s.heap news) (hm : (a, listOf l.toArray n) ∈ news) (hi : IntsAre l (KStt.codes z)) (hz : z.length ≤ 1000)
    (h : Q (.int z.length (s.toks + 1)) { s with toks := s.toks + 1 + 1 }) : wpAny (model prog w) A (call (.builtin "len") [.ref a]) Q E s := by
  have e : l.toArray.size = z.length := by rw [List.size_toArray, hi.length, KStt.codes_length]
  refine len_list (N.isList hm) (by rw [e]; omega) ?_
  rw [e]; exact h
theorem ne_int_same {y : Int} (h : Q (.bool false) s) : wpAny (model prog w) A (compareOp .NotEq (.int y t) (.int y u)) Q E s := by
  refine P.ne_int ?_
  simpa using h
theorem ne_str_same {y : Str} (h : Q (.bool false) s) : wpAny (model prog w) A (compareOp .NotEq (.str y t) (.str y u)) Q E s := by
  refine P.ne_str ?_
  simpa using h
/-- ten to the ninetieth -/
structure K90Is (k : Int) : Prop where
  is : k = 10 ^ 90
theorem pow90 (h : ∀ k, K90Is k → Q (.int k s.toks) { s with toks := s.toks + 1 }) : wpAny (model prog w) A (binaryOp .Pow (.int 10 t) (.int 90 u)) Q E s :=
  pow_int_small (by decide) (by decide) (by decide) (h _ ⟨rfl⟩)
theorem pow36 (h : ∀ k : Int, Q (.int k s.toks) { s with toks := s.toks + 1 }) : wpAny (model prog w) A (binaryOp .Pow (.int 10 t) (.int 36 u)) Q E s :=
  pow_int_small (by decide) (by decide) (by decide) (h _)
theorem k90_pos {k : Int} (hk : K90Is k) : 0 < k := by rw [hk.is]; decide +kernel
theorem k90_log {k : Int} (hk : K90Is k) : k.natAbs.log2 < 9000 := by rw [hk.is]; decide +kernel
theorem mod90 {a k : Int} (hk : K90Is k) (h : ∀ r : Int, Small90 r → Q (.int r s.toks) { s with toks := s.toks + 1 }) : wpAny (model prog w) A (binaryOp .Mod (.int a t) (.int k u)) Q E s := by
  have hp := k90_pos hk
  refine mod_int' (by omega) (h _ ⟨?_⟩)
  have h1 := Int.fmod_lt_of_pos a hp
  have h2 := Int.fmod_nonneg_of_pos a hp
  have h3 := hk.is
  have h4 : ((10 ^ 90 : Nat) : Int) = 10 ^ 90 := by decide +kernel
  generalize (10 ^ 90 : Nat) = K at h4 ⊢
  omega
theorem small_neg {r : Int} (h : Small90 r) : Small90 (-r) := ⟨by rw [Int.natAbs_neg]; exact h.lt⟩
theorem modB {a b : Int} (hb : 0 < b) (h : ∀ r : Int, 0 ≤ r → r < b → Q (.int r s.toks) { s with toks := s.toks + 1 }) : wpAny (model prog w) A (binaryOp .Mod (.int a t) (.int b u)) Q E s :=
  mod_int' (by omega) (h _ (Int.fmod_nonneg_of_pos a hb) (Int.fmod_lt_of_pos a hb))
end

theorem quot_big (t : Tok) : GivesP 63 1 [.int 1114112 t] noNeed (fun r => r = .bool false) := is_quotable_ok 1114112 t
theorem sym_neg (t : Tok) : GivesP 56 1 [.int (-1) t] noNeed (fun r => r = .bool false) := is_symbol_ok (-1) t
theorem sym_200 (t : Tok) : GivesP 56 1 [.int 200 t] noNeed (fun r => r = .bool false) := is_symbol_ok 200 t
local macro_rules | `(tactic| walk_at "compareOp NotEq ref ref") => `(tactic| k_extra "compareOp NotEq ref ref")
local macro_rules | `(tactic| walk_at "pyIter ref") => `(tactic| k_extra "pyIter ref")
local macro_rules | `(tactic| walk_at "InvEndN") => `(tactic| k_extra "InvEndN")
local macro_rules | `(tactic| walk_at "call builtin:len") => `(tactic| k_extra "call builtin:len")
local macro_rules | `(tactic| walk_at "call builtin:abs") => `(tactic| k_extra "call builtin:abs")
local macro_rules | `(tactic| walk_at "binaryOp Mod int int") => `(tactic| k_extra "binaryOp Mod int int")
local macro_rules | `(tactic| walk_at "binaryOp Pow int int") => `(tactic| k_extra "binaryOp Pow int int")
local macro_rules | `(tactic| walk_at "compareOp NotEq bool bool") => `(tactic| k_extra "compareOp NotEq bool bool")
local macro_rules | `(tactic| walk_at "compareOp NotEq str str") => `(tactic| k_extra "compareOp NotEq str str")
local macro_rules | `(tactic| walk_at "compareOp NotEq int int") => `(tactic| k_extra "compareOp NotEq int int")
local macro_rules | `(tactic| walk_at "exec For Name BinOp cons nil") => `(tactic| k_extra "exec For Name BinOp cons nil")
local macro_rules | `(tactic| walk_at "exec For Name List cons nil") => `(tactic| k_extra "exec For Name List cons nil")
local macro_rules | `(tactic| walk_at "call ref") => `(tactic| (k_here; k_dflt (refine' useP ?c ?k1 ?k2 ?k3 ?k4 ?k5 ?kK ?kn ?kd ?ku ?_; (case c => first | exact is_alnum_name_ok _ _ | exact is_symbol_name_ok _ _ | exact is_plain_name_ok _ _ | exact law_letters_ok _ _ (by assumption) | exact law_all_signs_ok _ _ (by assumption) | exact law_plain_ok _ _ (by assumption) | exact law_code_right_ok _ _ (by omega) (by omega) | exact quot_big _ | exact sym_neg _ | exact sym_200 _ | exact number_text_ok _ _ (by first | assumption | exact small_neg (by assumption)) | exact law_spelled_ok _ _ (by first | assumption | exact small_neg (by assumption))); (case k1 => k_asm); (case k2 => k_asm); (case k3 => k_asm); (case k4 => k_asm); (case k5 => k_asm); (case kK => first | exact rfl | assumption); (case kn => trivial); (case kd => ktr_room); (case ku => ktr_units); intro r9 h9 tk9 F9 N9 e9; (try dsimp only at e9); (first | subst e9 | (obtain ⟨t9, e9⟩ := e9; subst e9)); (try dsimp only); (try k_fold))))
local macro_rules | `(tactic| walk_at "call ref") => `(tactic| (k_here; k_dflt (refine' useP (codes_text_ok _ _ _ _ ?q1 ?q2 ?q3) ?k1 ?k2 ?k3 ?k4 ?k5 ?kK ?kn ?kd ?ku ?_; (case q1 => assumption); (case q2 => assumption); (case q3 => assumption); (case k1 => k_asm); (case k2 => k_asm); (case k3 => k_asm); (case k4 => k_asm); (case k5 => k_asm); (case kK => first | exact rfl | assumption); (case kn => first | exact List.Mem.head _ | k_mem | k_memK); (case kd => ktr_room); (case ku => ktr_units); intro r9 h9 tk9 F9 N9 e9; (try dsimp only at e9); (obtain ⟨t9, e9⟩ := e9; subst e9); (try dsimp only); (try k_fold))))
local macro_rules | `(tactic| walk_at "call ref") => `(tactic| (k_here; k_dflt (refine' useL (text_codes_ok _ _ ?q) ?k1 ?k2 ?k3 ?k4 ?k5 ?kK ?kn ?kd ?ku ?_; (case q => assumption); (case k1 => k_asm); (case k2 => k_asm); (case k3 => k_asm); (case k4 => k_asm); (case k5 => k_asm); (case kK => first | exact rfl | assumption); (case kn => trivial); (case kd => ktr_room); (case ku => ktr_units); intro l9 us9 n9 h9 tk9 F9 N9 lt9 S9; (try dsimp only at S9);  (try dsimp only); (try k_fold))))
local macro_rules | `(tactic| walk_at "call ref") => `(tactic| (k_here; k_dflt (refine' useL (law_texts_ok _ _ _ ?q1 ?q2) ?k1 ?k2 ?k3 ?k4 ?k5 ?kK ?kn ?kd ?ku ?_; (case q1 => assumption); (case q2 => omega); (case k1 => k_asm); (case k2 => k_asm); (case k3 => k_asm); (case k4 => k_asm); (case k5 => k_asm); (case kK => first | exact rfl | assumption); (case kn => k_dflt (show Heap.IsList _ _ _; assumption)); (case kd => ktr_room); (case ku => ktr_units); intro l9 us9 n9 h9 tk9 F9 N9 lt9 S9; (try dsimp only at S9); obtain ⟨xs9, S9, G9⟩ := S9; (try dsimp only); (try k_fold))))
theorem holds : PySem.Challenge.rw_ok0003_01.Holds := hd (by
  w_top off
  k_go0
  (all_goals try k_fold)
  k_with_none
  k_with "exec For Name BinOp cons nil" => (k_here; (rename Fr _ _ _ _ => lF'); (with_unfolding_all refine' For_invVF lF' ?k1 ?k2 ?_; (case k1 => exact rfl); (case k2 => exact rfl); k_whole))
  k_with "exec For Name List cons nil" => (k_here; (rename Fr _ _ _ _ => lF'); (with_unfolding_all refine' For_invVF lF' ?k1 ?k2 ?_; (case k1 => exact rfl); (case k2 => exact rfl); k_whole))
  k_with "compareOp NotEq bool bool" => (with_reducible refine ne_bool_is (by first | rfl) ?_)
  k_with "pyIter ref" => (k_here; (rename IntsAre _ _ => S9'); (rename Fr _ _ _ _ => lF'); (rename News _ _ _ _ => lN'); (with_unfolding_all refine loop_vals (rest := []) [Str.ofString "number"] (PI _) (by rfl) lF' lN' (by first | exact List.Mem.head _ | k_mem | k_memK) (fun p hp => nomatch hp) (fun p hp => nomatch hp) (vals_ints S9') ?_ ?_); (all_goals (clear lF' lN')); (rotate_left); (intro kU kH kTk kFr kNews); (rotate_left); (intro kV kU kH kTk kOwn kPV kOff kFr kNews; obtain ⟨m9, t9, e9, hm9⟩ := kPV; subst e9); (all_goals (try k_fold)))
  k_with "pyIter ref" => (k_here; (rename Fr _ _ _ _ => lF'); (rename News _ _ _ _ => lN'); (with_unfolding_all refine loop_vals (rest := []) [] (fun v => ∃ n t, v = Value.int n t ∧ 0 ≤ n ∧ n < 1114112) (by rfl) lF' lN' (List.Mem.head _) (fun p hp => nomatch hp) (fun p hp => nomatch hp) (by (refine List.forall_mem_cons.mpr ⟨⟨_, _, rfl, by omega, by omega⟩, List.forall_mem_cons.mpr ⟨⟨_, _, rfl, by omega, by omega⟩, List.forall_mem_cons.mpr ⟨⟨_, _, rfl, by omega, by omega⟩, List.forall_mem_cons.mpr ⟨⟨_, _, rfl, by omega, by omega⟩, List.forall_mem_cons.mpr ⟨⟨_, _, rfl, by omega, by omega⟩, List.forall_mem_nil _⟩⟩⟩⟩⟩)) ?_ ?_); (all_goals (clear lF' lN')); (rotate_left); (intro kU kH kTk kFr kNews); (rotate_left); (intro kV kU kH kTk kOwn kPV kOff kFr kNews; obtain ⟨m9, t9, e9, hm1, hm2⟩ := kPV; subst e9); (all_goals (try k_fold)))
  k_with "pyIter ref" => (k_here; (rename IntsAre _ (KStt.codes _) => S9'); (rename LCg.Off1 _ _ => o9'); (rename Fr _ _ _ _ => lF'); (rename News _ _ _ _ => lN'); (with_unfolding_all refine loop_vals [] (PI _) (by rfl) lF' lN' (List.Mem.head _) (fun p hp => List.mem_cons_of_mem _ hp) (off1_mem o9') (vals_ints S9') ?_ ?_); (all_goals (clear lF' lN')); (rotate_left); (intro kU kH kTk kFr kNews); (rotate_left); (intro kV kU kH kTk kOwn kPV kOff kFr kNews; obtain ⟨m9, t9, e9, hm9⟩ := kPV; subst e9; have hm1 := code_lo hm9; have hm2 := hz4 m9 hm9); (all_goals (try k_fold)))
  k_with "pyIter ref" => (k_here; (rename goodTexts _ => G9'); (rename StrsAre _ _ => S9'); (rename LCg.Off1 _ _ => o9'); (rename Fr _ _ _ _ => lF'); (rename News _ _ _ _ => lN'); (with_unfolding_all refine loop_vals [Str.ofString "codes", Str.ofString "code"] (PS _) (by rfl) lF' lN' (List.Mem.head _) (fun p hp => List.mem_cons_of_mem _ hp) (off1_mem o9') (vals_strs S9') ?_ ?_); (all_goals (clear lF' lN')); (rotate_left); (intro kU kH kTk kFr kNews); (rotate_left); (intro kV kU kH kTk kOwn kPV kOff kFr kNews; obtain ⟨z9, t9, e9, hz9⟩ := kPV; subst e9; obtain ⟨hz1, hz2⟩ := G9'.2 z9 hz9; have hz4 : ∀ c ∈ KStt.codes z9, c < 1114112 := hz2; have hz3 : z9.length ≤ sizeLine := by rw [PySem.sizeLine_eq]; omega); (all_goals (try k_fold)))
  k_with "call builtin:len" => ((with_reducible show wpAny _ _ (call (Value.builtin "len") [Value.str _ _]) _ _ _); (refine len_str (by omega) ?_))
  k_with "call builtin:len" => (k_dflt (refine len_codes (by k_asm) (by first | exact List.Mem.head _ | k_mem | k_memK) (by assumption) (by assumption) ?_))
  k_with "compareOp NotEq int int" => (with_reducible refine ne_int_same ?_)
  k_with "compareOp NotEq str str" => (with_reducible refine ne_str_same ?_)
  k_with "call builtin:abs" => (with_reducible refine abs_gen ?_; intro _ _ _ _)
  k_with "binaryOp Pow int int" => (with_reducible (first | refine pow18 ?_ | (refine pow36 ?_; intro _) | (refine pow90 ?_; intro _ _)))
  k_with "binaryOp Mod int int" => (with_reducible (first | (refine mod90 (by assumption) ?_; intro _ _) | (refine modB (by decide) ?_; intro _ _ _)))
  k_with "InvEndN" => ((rename News _ _ _ _ => nE'); k_dflt (refine keep_end (by assumption) nE' (by (intro p hp; repeat' (first | exact hp | apply List.mem_cons_of_mem))) (by (intro z h1 h3; (try simp only [List.contains_cons, List.contains_nil, Bool.or_false, Bool.or_eq_false_iff, beq_eq_false_iff_ne, ne_eq] at h3); first | rfl | (simp [h1]; done) | (simp [h1, h3]; done)))))
  k_steps
  · exfalso
    rename _ = false => hne9
    rename (_ ∨ _) => hor9
    exact not_empty_len hne9 hor9
)
end Mine
end
open PySem PySem.W PyProof.Rows
theorem PySem.Challenge.cw_ok0003_01_holds : PySem.Challenge.rw_ok0003_01.Holds := by
  exact Mine.holds
