import PyProof.Rows.All
import Wide.All
import OpenK.AllK
import Wide.FinOn
import PySem.Challenge.RW_sa0207_01
set_option Elab.async false

section
open PySem PySem.W PyProof.Rows
namespace Mine
set_option maxRecDepth 100000 in
set_option maxHeartbeats 8000000 in
open_top hd for PySem.Challenge.rw_sa0207_01
end Mine
end

/-! Calc -/
section
open PySem PySem.W PySem.Calls PyProof.Rows
set_option Elab.async false
set_option linter.unusedVariables false
set_option linter.unusedSectionVars false
namespace Mine

abbrev PR : Program := PySem.Challenge.rw_sa0207_01.row.prog
noncomputable abbrev KF (w : World) : Frag := hd.heap_39 w.params

def HLe (h h' : Heap) : Prop := ∀ b o, h.get? b = some o → h'.get? b = some o
theorem HLe.refl {h : Heap} : HLe h h := fun _ _ e => e
theorem HLe.trans {a b c : Heap} (x : HLe a b) (y : HLe b c) : HLe a c := fun _ _ e => y _ _ (x _ _ e)
theorem HLe.push {h : Heap} (o : Obj) : HLe h (h.push o) := fun _ _ e => Heap.get?_push_of_some o e
theorem HLe.extBut {h h' : Heap} (x : Heap.ExtBut h.objs.size h h') : HLe h h' := fun b o e => x b o (Nat.ne_of_lt (Heap.lt_size e)) e

/-- the plain data of this text -/
inductive D where
  | int (i : Int)
  | bool (b : Bool)
  | pair (p : Int × Int)
  | rows (p q r : Int × Int)
  | adr (a : Addr)

def pairObj (a : Int) (t : Tok) (b : Int) (u : Tok) (n : Nat) : Obj := { cls := .type "tuple", data := .seq #[.int a t, .int b u] n }

inductive Ty (h : Heap) : Value → D → Prop
  | int (i : Int) (t : Tok) : Ty h (.int i t) (.int i)
  | bool (b : Bool) : Ty h (.bool b) (.bool b)
  | pair' {r : Addr} {p : Int × Int} {t u : Tok} {n : Nat} {o : Obj} : h.get? r = some o → o.cls = .type "tuple" → o.data = .seq #[.int p.1 t, .int p.2 u] n → Ty h (.ref r) (.pair p)
  | rows {a : Addr} {o : Obj} {x y z : Value} {n : Nat} {p q r : Int × Int} : h.get? a = some o → o.cls = .type "list" → o.data = .seq #[x, y, z] n → Ty h x (.pair p) → Ty h y (.pair q) → Ty h z (.pair r) → Ty h (.ref a) (.rows p q r)
  | adr (a : Addr) : Ty h (.ref a) (.adr a)
theorem Ty.pair {h : Heap} {r : Addr} {p : Int × Int} {t u : Tok} {n : Nat} (e : h.get? r = some (pairObj p.1 t p.2 u n)) : Ty h (.ref r) (.pair p) := .pair' e rfl rfl

theorem Ty.mono {h h' : Heap} {v : Value} {d : D} (x : Ty h v d) (k : HLe h h') : Ty h' v d := by
  induction x with
  | int i t => exact .int i t
  | bool b => exact .bool b
  | pair' e c d => exact .pair' (k _ _ e) c d
  | rows e c d _ _ _ i1 i2 i3 => exact .rows (k _ _ e) c d i1 i2 i3
  | adr a => exact .adr a

theorem Ty.same {h h' : Heap} {v : Value} {d : D} {L : Addr} {m : Str → Option Value} (x : Ty h v d) (n : h.Ns L m) (k : Heap.SameBut L h h') : Ty h' v d := by
  have ne : ∀ {r : Addr} {o : Obj} {vs : Array Value} {c : Nat}, h.get? r = some o → o.data = .seq vs c → r ≠ L := by
    rintro r o vs c e ed rfl
    obtain ⟨o', es, ep, ho, hd, _⟩ := n
    rw [e] at ho
    cases ho
    rw [ed] at hd
    cases hd
  induction x with
  | int i t => exact .int i t
  | bool b => exact .bool b
  | pair' e ec ed => exact .pair' ((k.2 _ (ne e ed)).trans e) ec ed
  | rows e ec ed _ _ _ i1 i2 i3 => exact .rows ((k.2 _ (ne e ed)).trans e) ec ed i1 i2 i3
  | adr a => exact .adr a
theorem Ty.slots {h h' : Heap} {v : Value} {d : D} (x : Ty h v d) (k : h.UpToSlots h') : Ty h' v d := by
  induction x with
  | int i t => exact .int i t
  | bool b => exact .bool b
  | pair' e ec ed =>
    obtain ⟨sl, hs⟩ := k _ _ e fun vs q => by rw [ed] at q; cases q
    exact .pair' hs ec ed
  | rows e ec ed _ _ _ i1 i2 i3 =>
    obtain ⟨sl, hs⟩ := k _ _ e fun vs q => by rw [ed] at q; cases q
    exact .rows hs ec ed i1 i2 i3
  | adr a => exact .adr a

def Gl (w : World) (h : Heap) : Prop := (KF w).In h ∧ ∃ mean mg mb, Top hd.view_39 (looseW hd.view_39 []) mean mg mb h
theorem Gl.keeps {w : World} {h h' : Heap} (x : Gl w h) (k : HLe h h') : Gl w h' :=
  let ⟨a, mean, mg, mb, t⟩ := x; ⟨a.keeps k, mean, mg, mb, t.keeps k⟩

/-- room for k more frames -/
structure Rm (A : Around) (k : Nat) : Prop where
  hh : A.handled = none
  hd : A.depth + k < recursionLimit
  hu : A.units + 8 * k + 70 < cLine
theorem Rm.less {A : Around} {k l : Nat} (x : Rm A k) (h : l ≤ k) : Rm A l := ⟨x.hh, by have := x.hd; omega, by have := x.hu; omega⟩
theorem Rm.deeper {A : Around} {env : Env} {k : Nat} (x : Rm A (k + 1)) : Rm (A.deeper env) k :=
  ⟨x.hh, by rw [depth_deeper]; have := x.hd; omega, by rw [units_deeper]; have := x.hu; omega⟩

abbrev Vars := List (Str × D)

structure Cx (w : World) (h₀ : Heap) (L : Addr) (Γ : Vars) (h : Heap) : Prop where
  g : Gl w h₀
  le : HLe h₀ h
  above : h₀.objs.size ≤ L
  hv : ∃ m, h.Ns L m ∧ ∀ x d, Γ.lookup x = some d → ∃ v, m x = some v ∧ Ty h v d
theorem Cx.gl {w : World} {h₀ h : Heap} {L : Addr} {Γ : Vars} (c : Cx w h₀ L Γ h) : Gl w h := c.g.keeps c.le
theorem Cx.mono {w : World} {h₀ h h' : Heap} {L : Addr} {Γ : Vars} (c : Cx w h₀ L Γ h) (k : HLe h h') : Cx w h₀ L Γ h' :=
  ⟨c.g, c.le.trans k, c.above, let ⟨m, n, p⟩ := c.hv; ⟨m, n.keeps k, fun x d e => let ⟨v, a, b⟩ := p x d e; ⟨v, a, b.mono k⟩⟩⟩

def upd : Vars → Str → D → Vars
  | [], x, d => [(x, d)]
  | (y, e) :: r, x, d => if y == x then (x, d) :: r else (y, e) :: upd r x d
theorem lookup_upd (Γ : Vars) (x : Str) (d : D) (y : Str) : (upd Γ x d).lookup y = if y == x then some d else Γ.lookup y := by
  induction Γ with
  | nil => simp only [upd, List.lookup]; cases y == x <;> rfl
  | cons p r ih =>
    obtain ⟨z, e⟩ := p
    simp only [upd]
    by_cases hz : z == x
    · rw [if_pos hz]
      have : z = x := by simpa using hz
      subst this
      simp only [List.lookup]
      cases y == z <;> rfl
    · rw [if_neg hz]
      simp only [List.lookup]
      by_cases hy : y == z
      · have : y = z := by simpa using hy
        subst this
        simp [hz]
      · simp only [hy, ih]

theorem Cx.store {w : World} {h₀ h h' : Heap} {L : Addr} {Γ : Vars} {x : Str} {v : Value} {d : D} {m : Str → Option Value} (g : Gl w h₀) (le : HLe h₀ h) (ab : h₀.objs.size ≤ L)
    (n : h.Ns L m) (p : ∀ x d, Γ.lookup x = some d → ∃ v, m x = some v ∧ Ty h v d) (t : Ty h v d)
    (n' : h'.Ns L (fun y => if y = x then some v else m y)) (s : Heap.SameBut L h h') : Cx w h₀ L (upd Γ x d) h' := by
  refine ⟨g, fun b o e => (s.2 b (Nat.ne_of_lt (Nat.lt_of_lt_of_le (Heap.lt_size e) ab))).trans (le b o e), ab, _, n', fun y e hy => ?_⟩
  rw [lookup_upd] at hy
  by_cases hyx : y = x
  · subst hyx
    simp only [beq_self_eq_true, if_true, Option.some.injEq] at hy
    subst hy
    exact ⟨v, by simp, t.same n s⟩
  · have hb : (y == x) = false := by simpa using hyx
    rw [hb] at hy
    obtain ⟨v', a, b⟩ := p y e (by simpa using hy)
    exact ⟨v', by simpa [hyx] using a, b.same n s⟩

section
variable {w : World} {A : Around} {C : Heap → Prop} {h₀ : Heap} {L : Addr} {Γ : Vars} {env : Env}

/-- an expression's value, from any state that C allows -/
def Ev (w : World) (A : Around) (C : Heap → Prop) (t : Sem Value) (R : Heap → Value → Prop) : Prop :=
  ∀ (s : Shared) (Q E : Value → Shared → Prop), C s.heap → (∀ v h' tk', HLe s.heap h' → R h' v → Q v { s with heap := h', toks := tk' }) → wpAny (model PR w) A t Q E s
def EvB (w : World) (A : Around) (C : Heap → Prop) (t : Sem Bool) (b : Bool) : Prop :=
  ∀ (s : Shared) (Q : Bool → Shared → Prop) (E : Value → Shared → Prop), C s.heap → (∀ h' tk', HLe s.heap h' → Q b { s with heap := h', toks := tk' }) → wpAny (model PR w) A t Q E s

def Tys (h : Heap) : List Value → List D → Prop
  | [], [] => True
  | v :: vs, d :: ds => Ty h v d ∧ Tys h vs ds
  | _, _ => False
theorem Tys.mono {h h' : Heap} (k : HLe h h') : ∀ {vs : List Value} {ds : List D}, Tys h vs ds → Tys h' vs ds
  | [], [], _ => True.intro
  | _ :: _, _ :: _, x => ⟨x.1.mono k, Tys.mono k x.2⟩
  | [], _ :: _, x => x.elim
  | _ :: _, [], x => x.elim
def EvL (w : World) (A : Around) (C : Heap → Prop) (t : Sem (List Value)) (ds : List D) : Prop :=
  ∀ (s : Shared) (Q : List Value → Shared → Prop) (E : Value → Shared → Prop), C s.heap → (∀ vs h' tk', HLe s.heap h' → Tys h' vs ds → Q vs { s with heap := h', toks := tk' }) → wpAny (model PR w) A t Q E s

abbrev Is (d : D) : Heap → Value → Prop := fun h v => Ty h v d
def Mono (C : Heap → Prop) : Prop := ∀ {h h'}, C h → HLe h h' → C h'
theorem Cx.Mono : Mono (Cx w h₀ L Γ) := fun c k => c.mono k

theorem Ev.int {i : Int} {k : Nat} {pos : Pos} : Ev w A C (eval (.Constant (.int i) k pos) env) (Is (.int i)) :=
  fun s _ _ _ q => wpAny_Constant_int (q _ s.heap _ .refl (.int _ _))
theorem Ev.bool {b : Bool} {k : Nat} {pos : Pos} : Ev w A C (eval (.Constant (.bool b) k pos) env) (Is (.bool b)) :=
  fun s _ _ _ q => Constant_bool (q _ s.heap s.toks .refl (.bool _))

theorem Ev.loc {x : Str} {pos : Pos} {d : D} (hd : Γ.lookup x = some d) (hk : env.scope.kind = .function) (hl : env.kindOf x = some .local) (hL : env.locals = L)
    (hb : (x == ("__debug__" : Str)) = false) : Ev w A (Cx w h₀ L Γ) (eval (.Name x pos) env) (Is d) := by
  intro s Q E c q
  obtain ⟨m, n, p⟩ := c.hv
  obtain ⟨v, a, b⟩ := p x d hd
  subst hL
  exact wpAny_Name (wpAny_loadName_local hk hl n a (q v s.heap s.toks .refl b)) hb

/-- a name of the text's top -/
theorem Ev.glob {x : Str} {pos : Pos} {v : Value} (e : nsIn (KF w) mainGlobals x = some (some v)) (hk : env.scope.kind = .function) (hx : env.kindOf x = some .globalImplicit)
    (hg : env.globals = mainGlobals) (hb : (x == ("__debug__" : Str)) = false) : Ev w A (Cx w h₀ L Γ) (eval (.Name x pos) env) (fun h u => u = v ∧ Gl w h) := by
  intro s Q E c q
  obtain ⟨X, mean, mg, mb, T⟩ := c.gl
  exact Name_function_global hk hx (loadGlobal_global (by rw [hg]; exact T.g) (mg_of X T.g e) (q v s.heap s.toks .refl ⟨rfl, c.gl⟩)) hb

theorem Ev.boot {x : Str} {pos : Pos} {v : Value} (e : nsIn (KF w) mainGlobals x = some none) (hv : bootBuiltins x = some v) (hn : x ≠ "__name__") (hk : env.scope.kind = .function) (hx : env.kindOf x = some .globalImplicit)
    (hg : env.globals = mainGlobals) (hb' : env.builtins = builtinsNs) (hb : (x == ("__debug__" : Str)) = false) : Ev w A (Cx w h₀ L Γ) (eval (.Name x pos) env) (fun _ u => u = v) := by
  intro s Q E c q
  obtain ⟨X, mean, mg, mb, T⟩ := c.gl
  exact Name_function_global hk hx (loadGlobal_builtin (by rw [hg]; exact T.g) (mg_none_of X T.g e) (by rw [hb']; exact T.b) ((T.builtins x hn).trans hv) (q v s.heap s.toks .refl rfl)) hb

theorem Ev.weak {t : Sem Value} {R R' : Heap → Value → Prop} (h : Ev w A C t R) (k : ∀ h v, R h v → R' h v) : Ev w A C t R' :=
  fun s Q E c q => h s Q E c fun v h' tk' l r => q v h' tk' l (k _ _ r)

/-- a pair that the top holds -/
theorem Ev.globPair {x : Str} {pos : Pos} {r : Addr} {a b : Int} {t u : Tok} {n : Nat} (e : nsIn (KF w) mainGlobals x = some (some (.ref r))) (he : (KF w).lookup r = some (pairObj a t b u n))
    (hk : env.scope.kind = .function) (hx : env.kindOf x = some .globalImplicit)
    (hg : env.globals = mainGlobals) (hb : (x == ("__debug__" : Str)) = false) : Ev w A (Cx w h₀ L Γ) (eval (.Name x pos) env) (Is (.pair (a, b))) :=
  (Ev.glob e hk hx hg hb).weak fun h v ⟨x, g⟩ => by subst x; exact .pair (p := (a, b)) (g.1 _ _ he)
theorem Ev.globInt {x : Str} {pos : Pos} {i : Int} {t : Tok} (e : nsIn (KF w) mainGlobals x = some (some (.int i t)))
    (hk : env.scope.kind = .function) (hx : env.kindOf x = some .globalImplicit)
    (hg : env.globals = mainGlobals) (hb : (x == ("__debug__" : Str)) = false) : Ev w A (Cx w h₀ L Γ) (eval (.Name x pos) env) (Is (.int i)) :=
  (Ev.glob e hk hx hg hb).weak fun h v ⟨x, g⟩ => by subst x; exact .int _ _

/-- two operands -/
theorem Ev.two {e₁ e₂ : Expr} {op : Operator} {pos : Pos} {d₁ d₂ d : D} (M : Mono C) (h₁ : Ev w A C (eval e₁ env) (Is d₁)) (h₂ : Ev w A C (eval e₂ env) (Is d₂))
    (hop : ∀ (s : Shared) (a b : Value) (Q E : Value → Shared → Prop), Ty s.heap a d₁ → Ty s.heap b d₂ → (∀ v h' tk', HLe s.heap h' → Ty h' v d → Q v { s with heap := h', toks := tk' }) → wpAny (model PR w) A (binaryOp op a b) Q E s) :
    Ev w A C (eval (.BinOp e₁ op e₂ pos) env) (Is d) :=
  fun s Q E c q => wpAny_BinOp (h₁ s _ _ c fun v₁ h' tk' l₁ r₁ => h₂ _ _ _ (M c l₁) fun v₂ h'' tk'' l₂ r₂ => hop _ v₁ v₂ _ _ (r₁.mono l₂) r₂ fun v h tk l r => q v h tk (l₁.trans (l₂.trans l)) r)
theorem Ev.cmp {e₁ e₂ : Expr} {op : CmpOp} {pos : Pos} {d₁ d₂ : D} {b : Bool} (M : Mono C) (h₁ : Ev w A C (eval e₁ env) (Is d₁)) (h₂ : Ev w A C (eval e₂ env) (Is d₂))
    (hop : ∀ (s : Shared) (x y : Value) (Q E : Value → Shared → Prop), Ty s.heap x d₁ → Ty s.heap y d₂ → Q (.bool b) s → wpAny (model PR w) A (compareOp op x y) Q E s)
    (hm : behindInMarks op e₂ = false := by with_unfolding_all rfl) :
    Ev w A C (eval (.Compare e₁ [op] [e₂] pos) env) (Is (.bool b)) :=
  fun s Q E c q => wpAny_Compare1 (h₁ s _ _ c fun v₁ h' tk' l₁ r₁ => h₂ _ _ _ (M c l₁) fun v₂ h'' tk'' l₂ r₂ => hop _ v₁ v₂ _ _ (r₁.mono l₂) r₂ (q _ h'' tk'' (l₁.trans l₂) (.bool b))) hm
theorem EvB.cmp {e₁ e₂ : Expr} {op : CmpOp} {pos : Pos} {d₁ d₂ : D} {b : Bool} {whole : Sem Value} (M : Mono C) (h₁ : Ev w A C (eval e₁ env) (Is d₁)) (h₂ : Ev w A C (eval e₂ env) (Is d₂))
    (hop : ∀ (s : Shared) (x y : Value) (Q E : Value → Shared → Prop), Ty s.heap x d₁ → Ty s.heap y d₂ → Q (.bool b) s → wpAny (model PR w) A (compareOp op x y) Q E s)
    (hm : behindInMarks op e₂ = false := by with_unfolding_all rfl) :
    EvB w A C (isTrue (.Compare e₁ [op] [e₂] pos) env whole) b :=
  fun s Q E c q => wpAny_isTrue_Compare1 (h₁ s _ _ c fun v₁ h' tk' l₁ r₁ => h₂ _ _ _ (M c l₁) fun v₂ h'' tk'' l₂ r₂ => hop _ v₁ v₂ _ _ (r₁.mono l₂) r₂ (wpAny_truthy_bool (q h'' tk'' (l₁.trans l₂)))) hm

section
variable {a b : Int} {s : Shared} {x y : Value} {Q E : Value → Shared → Prop}
theorem op_add (hx : Ty s.heap x (.int a)) (hy : Ty s.heap y (.int b)) (q : ∀ v h' tk', HLe s.heap h' → Ty h' v (.int (a + b)) → Q v { s with heap := h', toks := tk' }) : wpAny (model PR w) A (binaryOp .Add x y) Q E s := by
  cases hx; cases hy; exact PyProof.Rows.add_int (q _ s.heap _ .refl (.int _ _))
theorem op_sub (hx : Ty s.heap x (.int a)) (hy : Ty s.heap y (.int b)) (q : ∀ v h' tk', HLe s.heap h' → Ty h' v (.int (a - b)) → Q v { s with heap := h', toks := tk' }) : wpAny (model PR w) A (binaryOp .Sub x y) Q E s := by
  cases hx; cases hy; exact PyProof.Rows.sub_int (q _ s.heap _ .refl (.int _ _))
theorem op_mul (hm : IntMulOk a b) (hx : Ty s.heap x (.int a)) (hy : Ty s.heap y (.int b)) (q : ∀ v h' tk', HLe s.heap h' → Ty h' v (.int (a * b)) → Q v { s with heap := h', toks := tk' }) : wpAny (model PR w) A (binaryOp .Mult x y) Q E s := by
  cases hx; cases hy; exact PyProof.Rows.mul_int (q _ s.heap _ .refl (.int _ _)) hm
theorem op_mod (hb : 0 < b) (hx : Ty s.heap x (.int a)) (hy : Ty s.heap y (.int b)) (q : ∀ v h' tk', HLe s.heap h' → Ty h' v (.int (a % b)) → Q v { s with heap := h', toks := tk' }) : wpAny (model PR w) A (binaryOp .Mod x y) Q E s := by
  cases hx; cases hy; exact PyProof.Rows.mod_int' (by omega) (q _ s.heap _ .refl (by rw [Int.fmod_eq_emod_of_nonneg _ (by omega)]; exact .int _ _))
theorem op_pow (hn : 0 ≤ b) (hsz : (Builtin.Int.intBits a : Int) * b ≤ 2 ^ 27) (hx : Ty s.heap x (.int a)) (hy : Ty s.heap y (.int b)) (q : ∀ v h' tk', HLe s.heap h' → Ty h' v (.int (a ^ b.toNat)) → Q v { s with heap := h', toks := tk' }) : wpAny (model PR w) A (binaryOp .Pow x y) Q E s := by
  cases hx; cases hy; exact PyProof.Rows.pow_int hn hsz (q _ s.heap _ .refl (.int _ _))
theorem op_iadd (hx : Ty s.heap x (.int a)) (hy : Ty s.heap y (.int b)) (q : ∀ v h' tk', HLe s.heap h' → Ty h' v (.int (a + b)) → Q v { s with heap := h', toks := tk' }) : wpAny (model PR w) A (inplaceOp .Add x y) Q E s := by
  cases hx; cases hy; exact PyProof.Rows.iadd_int (q _ s.heap _ .refl (.int _ _))
theorem op_ifloordiv (hb : 0 < b) (hp : b < 1073741824) (hx : Ty s.heap x (.int a)) (hy : Ty s.heap y (.int b)) (q : ∀ v h' tk', HLe s.heap h' → Ty h' v (.int (a / b)) → Q v { s with heap := h', toks := tk' }) : wpAny (model PR w) A (inplaceOp .FloorDiv x y) Q E s := by
  cases hx; cases hy; exact PyProof.Rows.ifloordiv_int (by omega) (q _ s.heap _ .refl (by rw [Int.fdiv_eq_ediv_of_nonneg _ (by omega)]; exact .int _ _)) (.inl (PyProof.noPylong_small (by omega)))
end
end
end Mine

end

/-! Calc2 -/
section
open PySem PySem.W PySem.Calls PyProof.Rows
set_option Elab.async false
set_option linter.unusedVariables false
set_option linter.unusedSectionVars false
namespace Mine
section
variable {w : World} {A : Around} {C : Heap → Prop} {h₀ : Heap} {L : Addr} {Γ : Vars} {env : Env}

theorem EvL.nil {pos : Pos} : EvL w A C (spliced (backTo pos (starEach [] env))) [] :=
  fun s Q E _ q => args_nil (q [] s.heap s.toks .refl True.intro)
theorem EvL.cons {pos : Pos} {e : Expr} {rest : List Expr} {d : D} {ds : List D} (M : Mono C) (h₁ : Ev w A C (eval e env) (Is d)) (h₂ : EvL w A C (spliced (backTo pos (starEach rest env))) ds)
    (he : starEach (e :: rest) env = (false, eval e env) :: starEach rest env := by rfl) : EvL w A C (spliced (backTo pos (starEach (e :: rest) env))) (d :: ds) :=
  fun s Q E c q => args_cons (h₁ s _ _ c fun v h' tk' l r => h₂ _ _ _ (M c l) fun vs h'' tk'' l' r' => q _ h'' tk'' (l.trans l') ⟨r.mono l', r'⟩) he

/-- what a call of a def gives -/
def Con (w : World) (f : Addr) (k : Nat) (ds : List D) (R : Heap → Value → Prop) : Prop :=
  ∀ (A : Around) (s : Shared) (vs : List Value) (Q E : Value → Shared → Prop), Rm A k → Gl w s.heap → Tys s.heap vs ds →
    (∀ v h' tk', HLe s.heap h' → R h' v → Q v { s with heap := h', toks := tk' }) → wpAny (model PR w) A (call (.ref f) vs) Q E s

theorem Ev.callF {x : Str} {p pos : Pos} {e : Expr} {rest : List Expr} {f : Addr} {o : Obj} {fd : FuncData} {k : Nat} {ds : List D} {R : Heap → Value → Prop} (M : Mono C) (r : Rm A k)
    (hf : Ev w A C (eval (.Name x p) env) (fun h u => u = .ref f ∧ Gl w h)) (ho : (KF w).lookup f = some o) (hd : o.data = .func fd) (hc : Con w f k ds R)
    (ha : EvL w A C (spliced (backTo pos (starEach (e :: rest) env))) ds)
    (he : starEach (e :: rest) env = (false, eval e env) :: starEach rest env := by rfl) :
    Ev w A C (eval (.Call (.Name x p) (e :: rest) [] pos) env) R :=
  fun s Q E c q => Call_ (hf s _ _ c fun v h' tk' l ⟨hv, g⟩ => by
    subst hv
    exact callWith_def hd (ha _ _ _ (M c l) fun vs h'' tk'' l' r' => ⟨(g.keeps l').1 _ _ ho, hc A _ vs _ _ r (g.keeps l') r' fun u h tk l'' r'' => q u h tk (l.trans (l'.trans l'')) r''⟩) he)

theorem Ev.callB {x : Str} {p pos : Pos} {e : Expr} {rest : List Expr} {id : String} {ds : List D} {R : Heap → Value → Prop} (M : Mono C)
    (hf : Ev w A C (eval (.Name x p) env) (fun _ u => u = .builtin id))
    (ha : EvL w A C (spliced (backTo pos (starEach (e :: rest) env))) ds)
    (hc : ∀ (s : Shared) (vs : List Value) (Q E : Value → Shared → Prop), Tys s.heap vs ds → (∀ v h' tk', HLe s.heap h' → R h' v → Q v { s with heap := h', toks := tk' }) → wpAny (model PR w) A (call (.builtin id) vs) Q E s)
    (he : starEach (e :: rest) env = (false, eval e env) :: starEach rest env := by rfl)
    (hplain : (backTo pos (starEach rest env)).any (·.1) = false := by rfl) :
    Ev w A C (eval (.Call (.Name x p) (e :: rest) [] pos) env) R :=
  fun s Q E c q => Call_ (hf s _ _ c fun v h' tk' l hv => by
    subst hv
    exact callWith_builtin1 (ha _ _ _ (M c l) fun vs h'' tk'' l' r' => hc _ vs _ _ r' fun u h tk l'' r'' => q u h tk (l.trans (l'.trans l'')) r'') he hplain)

theorem op_abs {a : Int} {s : Shared} {vs : List Value} {Q E : Value → Shared → Prop} (hx : Tys s.heap vs [.int a]) (q : ∀ v h' tk', HLe s.heap h' → Ty h' v (.int (if a < 0 then -a else a)) → Q v { s with heap := h', toks := tk' }) :
    wpAny (model PR w) A (call (.builtin "abs") vs) Q E s := by
  match vs, hx with
  | [_], ⟨h₁, _⟩ => cases h₁; exact call_abs_int fun u tk => q _ s.heap tk .refl (.int _ _)
theorem op_min (hh : A.handled = none) {a b : Int} {s : Shared} {vs : List Value} {Q E : Value → Shared → Prop} (hx : Tys s.heap vs [.int a, .int b]) (q : ∀ v h' tk', HLe s.heap h' → Ty h' v (.int (if b < a then b else a)) → Q v { s with heap := h', toks := tk' }) :
    wpAny (model PR w) A (call (.builtin "min") vs) Q E s := by
  match vs, hx with
  | [_, _], ⟨h₁, h₂, _⟩ => cases h₁; cases h₂; exact min_two_ints hh fun h' tk k => q _ h' tk k (by split <;> exact .int _ _)
theorem op_max (hh : A.handled = none) {a b : Int} {s : Shared} {vs : List Value} {Q E : Value → Shared → Prop} (hx : Tys s.heap vs [.int a, .int b]) (q : ∀ v h' tk', HLe s.heap h' → Ty h' v (.int (if b > a then b else a)) → Q v { s with heap := h', toks := tk' }) :
    wpAny (model PR w) A (call (.builtin "max") vs) Q E s := by
  match vs, hx with
  | [_, _], ⟨h₁, h₂, _⟩ => cases h₁; cases h₂; exact max_two_ints hh fun h' tk k => q _ h' tk k (by split <;> exact .int _ _)
theorem op_divmod {a b : Int} (hb : 0 < b) (hp : b.natAbs.log2 < 9000) {s : Shared} {vs : List Value} {Q E : Value → Shared → Prop} (hx : Tys s.heap vs [.int a, .int b])
    (q : ∀ v h' tk', HLe s.heap h' → Ty h' v (.pair (a / b, a % b)) → Q v { s with heap := h', toks := tk' }) :
    wpAny (model PR w) A (call (.builtin "divmod") vs) Q E s := by
  have e1 : a.fdiv b = a / b := Int.fdiv_eq_ediv_of_nonneg _ (by omega)
  have e2 : a.fmod b = a % b := Int.fmod_eq_emod_of_nonneg _ (by omega)
  match vs, hx with
  | [_, _], ⟨h₁, h₂, _⟩ =>
    cases h₁; cases h₂
    refine divmod_int (by omega) (q _ _ _ (HLe.push _) ?_) (.inl (PyProof.noPylong_of_log2 hp))
    rw [e1, e2]
    exact .pair (p := (a / b, a % b)) (Heap.get?_push_size _ rfl)

theorem Ev.tup {e₁ e₂ : Expr} {k : Nat} {pos : Pos} {a b : Int} (M : Mono C) (h₁ : Ev w A C (eval e₁ env) (Is (.int a))) (h₂ : Ev w A C (eval e₂ env) (Is (.int b)))
    (he₁ : starEach [e₁, e₂] env = (false, eval e₁ env) :: starEach [e₂] env := by rfl) (he₂ : starEach [e₂] env = (false, eval e₂ env) :: starEach [] env := by rfl) :
    Ev w A C (eval (.Tuple [e₁, e₂] k pos) env) (Is (.pair (a, b))) :=
  fun s Q E c q => Tuple_ (EvL.cons M h₁ (EvL.cons M h₂ EvL.nil he₂) he₁ s _ _ c fun vs h' tk' l r => by
    match vs, r with
    | [_, _], ⟨h₁, h₂, _⟩ => cases h₁; cases h₂; exact wpAny_newTuple (q _ _ tk' (l.trans (HLe.push _)) (.pair (p := (a, b)) (Heap.get?_push_size _ rfl))) (by show 2 ≤ sizeLine; rw [sizeLine_eq]; decide))

theorem isTup_of {h : Heap} {r : Addr} {p : Int × Int} {t u : Tok} {n : Nat} {o : Obj} (e : h.get? r = some o) (c : o.cls = .type "tuple") (d : o.data = .seq #[.int p.1 t, .int p.2 u] n) : IsTup h r [Value.int p.1 t, Value.int p.2 u].toArray :=
  ⟨_, e, c, n, d⟩

theorem Ev.item0 {e : Expr} {k : Nat} {ipos pos : Pos} {p : Int × Int} (M : Mono C) (h : Ev w A C (eval e env) (Is (.pair p))) :
    Ev w A C (eval (.Subscript e (.Constant (.int 0) k ipos) pos) env) (Is (.int p.1)) :=
  fun s Q E c q => Subscript_ (h s _ _ c fun v h' tk' l r => wpAny_Constant_int (by
    cases r with
    | @pair' r p t u n o e' ec ed => exact item_tupleT (isTup_of e' ec ed) (by decide) (by decide) (j := 0) rfl rfl (q _ h' _ l (.int _ _))))
theorem Ev.item1 {e : Expr} {k : Nat} {ipos pos : Pos} {p : Int × Int} (M : Mono C) (h : Ev w A C (eval e env) (Is (.pair p))) :
    Ev w A C (eval (.Subscript e (.Constant (.int 1) k ipos) pos) env) (Is (.int p.2)) :=
  fun s Q E c q => Subscript_ (h s _ _ c fun v h' tk' l r => wpAny_Constant_int (by
    cases r with
    | @pair' r p t u n o e' ec ed => exact item_tupleT (isTup_of e' ec ed) (by decide) (by decide) (j := 1) rfl rfl (q _ h' _ l (.int _ _))))

theorem Ev.neg {e : Expr} {pos : Pos} {a : Int} (M : Mono C) (h : Ev w A C (eval e env) (Is (.int a))) : Ev w A C (eval (.UnaryOp .USub e pos) env) (Is (.int (-a))) :=
  fun s Q E c q => UnaryOp_ (h s _ _ c fun v h' tk' l r => by cases r; exact PyProof.Rows.neg_int (q _ h' _ l (.int _ _)))

theorem Ev.one {op : BoolOp} {e : Expr} {pos : Pos} {R : Heap → Value → Prop} (h : Ev w A C (eval e env) R) : Ev w A C (eval (.BoolOp op [e] pos) env) R :=
  fun s Q E c q => BoolOp_one (h s Q E c q)
theorem Ev.and {e₁ e₂ : Expr} {rest : List Expr} {pos : Pos} {b₁ b₂ : Bool} (M : Mono C) (h₁ : Ev w A C (eval e₁ env) (Is (.bool b₁)))
    (h₂ : b₁ = true → Ev w A C (eval (.BoolOp .And (e₂ :: rest) pos) env) (Is (.bool b₂))) : Ev w A C (eval (.BoolOp .And (e₁ :: e₂ :: rest) pos) env) (Is (.bool (b₁ && b₂))) :=
  fun s Q E c q => BoolOp_and (h₁ s _ _ c fun v h' tk' l r => by
    cases r
    refine wpAny_truthy_bool ?_
    cases b₁ with
    | true => exact h₂ rfl _ _ _ (M c l) fun v h tk l' r' => q v h tk (l.trans l') (by simpa using r')
    | false => exact q _ h' tk' l (.bool _))
theorem Ev.or {e₁ e₂ : Expr} {rest : List Expr} {pos : Pos} {b₁ b₂ : Bool} (M : Mono C) (h₁ : Ev w A C (eval e₁ env) (Is (.bool b₁)))
    (h₂ : b₁ = false → Ev w A C (eval (.BoolOp .Or (e₂ :: rest) pos) env) (Is (.bool b₂))) : Ev w A C (eval (.BoolOp .Or (e₁ :: e₂ :: rest) pos) env) (Is (.bool (b₁ || b₂))) :=
  fun s Q E c q => BoolOp_or (h₁ s _ _ c fun v h' tk' l r => by
    cases r
    refine wpAny_truthy_bool ?_
    cases b₁ with
    | true => exact q _ h' tk' l (.bool _)
    | false => exact h₂ rfl _ _ _ (M c l) fun v h tk l' r' => q v h tk (l.trans l') (by simpa using r'))

theorem EvB.andNil {pos : Pos} {whole : Sem Value} : EvB w A C (isTrue (.BoolOp .And [] pos) env whole) true := fun s Q E c q => isTrue_and_nil (q s.heap s.toks .refl)
theorem EvB.orNil {pos : Pos} {whole : Sem Value} : EvB w A C (isTrue (.BoolOp .Or [] pos) env whole) false := fun s Q E c q => isTrue_or_nil (q s.heap s.toks .refl)
theorem EvB.and {x : Expr} {rest : List Expr} {pos : Pos} {whole : Sem Value} {b₁ b₂ : Bool} (M : Mono C) (h₁ : EvB w A C (isTrue x env (eval x env)) b₁)
    (h₂ : b₁ = true → EvB w A C (isTrue (.BoolOp .And rest pos) env whole) b₂) : EvB w A C (isTrue (.BoolOp .And (x :: rest) pos) env whole) (b₁ && b₂) :=
  fun s Q E c q => isTrue_and (h₁ s _ _ c fun h' tk' l => by
    cases b₁ with
    | true => exact h₂ rfl _ _ _ (M c l) fun h tk l' => by simpa using q h tk (l.trans l')
    | false => exact q h' tk' l)
theorem EvB.or {x : Expr} {rest : List Expr} {pos : Pos} {whole : Sem Value} {b₁ b₂ : Bool} (M : Mono C) (h₁ : EvB w A C (isTrue x env (eval x env)) b₁)
    (h₂ : b₁ = false → EvB w A C (isTrue (.BoolOp .Or rest pos) env whole) b₂) : EvB w A C (isTrue (.BoolOp .Or (x :: rest) pos) env whole) (b₁ || b₂) :=
  fun s Q E c q => isTrue_or (h₁ s _ _ c fun h' tk' l => by
    cases b₁ with
    | true => exact q h' tk' l
    | false => exact h₂ rfl _ _ _ (M c l) fun h tk l' => by simpa using q h tk (l.trans l'))
theorem EvB.not {x : Expr} {pos : Pos} {whole : Sem Value} {b : Bool} (h : EvB w A C (isTrue x env (eval x env)) b) : EvB w A C (isTrue (.UnaryOp .Not x pos) env whole) (!b) :=
  fun s Q E c q => isTrue_not (h s _ _ c fun h' tk' l => q h' tk' l)
theorem EvB.plain {e : Expr} {whole : Sem Value} {b : Bool} (h : Ev w A C whole (Is (.bool b))) (he : isTrue e env whole = (do let v ← whole; standAt e.pos; holding [v] (truthy v)) := by rfl) :
    EvB w A C (isTrue e env whole) b :=
  fun s Q E c q => isTrue_plain (h s _ _ c fun v h' tk' l r => by cases r; exact wpAny_truthy_bool (q h' tk' l)) he
theorem EvB.plainInt {e : Expr} {whole : Sem Value} {a : Int} (h : Ev w A C whole (Is (.int a))) (he : isTrue e env whole = (do let v ← whole; standAt e.pos; holding [v] (truthy v)) := by rfl) :
    EvB w A C (isTrue e env whole) (a != 0) :=
  fun s Q E c q => isTrue_plain (h s _ _ c fun v h' tk' l r => by cases r; exact PyProof.Rows.truthy_int (q h' tk' l)) he

theorem Ev.ite {test body orelse : Expr} {pos : Pos} {b : Bool} {R : Heap → Value → Prop} (M : Mono C) (h : EvB w A C (isTrue test env (eval test env)) b)
    (h₁ : b = true → Ev w A C (eval body env) R) (h₂ : b = false → Ev w A C (eval orelse env) R) : Ev w A C (eval (.IfExp test body orelse pos) env) R :=
  fun s Q E c q => IfExp_ (h s _ _ c fun h' tk' l => by
    cases b with
    | true => exact h₁ rfl _ _ _ (M c l) fun v h tk l' r' => q v h tk (l.trans l') r'
    | false => exact h₂ rfl _ _ _ (M c l) fun v h tk l' r' => q v h tk (l.trans l') r')

section
variable {a b : Int} {s : Shared} {x y : Value} {Q E : Value → Shared → Prop}
theorem cp_eq (hx : Ty s.heap x (.int a)) (hy : Ty s.heap y (.int b)) (q : Q (.bool (a == b)) s) : wpAny (model PR w) A (compareOp .Eq x y) Q E s := by cases hx; cases hy; exact PyProof.Rows.eq_int q
theorem cp_ne (hx : Ty s.heap x (.int a)) (hy : Ty s.heap y (.int b)) (q : Q (.bool (a != b)) s) : wpAny (model PR w) A (compareOp .NotEq x y) Q E s := by cases hx; cases hy; exact PyProof.Rows.ne_int q
theorem cp_lt (hx : Ty s.heap x (.int a)) (hy : Ty s.heap y (.int b)) (q : Q (.bool (decide (a < b))) s) : wpAny (model PR w) A (compareOp .Lt x y) Q E s := by cases hx; cases hy; exact PyProof.Rows.lt_int q
theorem cp_le (hx : Ty s.heap x (.int a)) (hy : Ty s.heap y (.int b)) (q : Q (.bool (decide (a ≤ b))) s) : wpAny (model PR w) A (compareOp .LtE x y) Q E s := by cases hx; cases hy; exact PyProof.Rows.le_int q
theorem cp_gt (hx : Ty s.heap x (.int a)) (hy : Ty s.heap y (.int b)) (q : Q (.bool (decide (b < a))) s) : wpAny (model PR w) A (compareOp .Gt x y) Q E s := by cases hx; cases hy; exact PyProof.Rows.gt_int q
theorem cp_ge (hx : Ty s.heap x (.int a)) (hy : Ty s.heap y (.int b)) (q : Q (.bool (decide (b ≤ a))) s) : wpAny (model PR w) A (compareOp .GtE x y) Q E s := by cases hx; cases hy; exact PyProof.Rows.ge_int q
end
section
variable {s : Shared} {x y : Value} {Q E : Value → Shared → Prop}
theorem cp_neB {b c : Bool} (hx : Ty s.heap x (.bool b)) (hy : Ty s.heap y (.bool c)) (q : Q (.bool (b != c)) s) : wpAny (model PR w) A (compareOp .NotEq x y) Q E s := by cases hx; cases hy; exact PyProof.Rows.ne_bool q
theorem reads_pair {p : Int × Int} {h : Heap} (hx : Ty h x (.pair p)) : Reads h x (.tuple [.int p.1, .int p.2]) [] := by
  cases hx with
  | @pair' r p t u n o e ec ed => exact reads_tuple_at (as := []) e ec ed (.cons (.int _ _) (.cons (.int _ _) .nil))
theorem eqv_pair (p q : Int × Int) : PyData.eqv (.tuple [.int p.1, .int p.2]) (.tuple [.int q.1, .int q.2]) = (p == q) := by
  obtain ⟨a, b⟩ := p
  obtain ⟨c, d⟩ := q
  simp only [PyData.eqv, PyData.eqvAll, Bool.and_true]
  rfl
theorem cp_eqP {p q' : Int × Int} (hu : A.units + 64 < cLine) (hx : Ty s.heap x (.pair p)) (hy : Ty s.heap y (.pair q')) (q : Q (.bool (p == q')) s) : wpAny (model PR w) A (compareOp .Eq x y) Q E s :=
  eq_dataH (reads_pair hx) (reads_pair hy) rfl rfl hu (by rw [eqv_pair]; exact q)
theorem cp_neP {p q' : Int × Int} (hu : A.units + 64 < cLine) (hx : Ty s.heap x (.pair p)) (hy : Ty s.heap y (.pair q')) (q : Q (.bool (p != q')) s) : wpAny (model PR w) A (compareOp .NotEq x y) Q E s :=
  ne_dataH (reads_pair hx) (reads_pair hy) rfl rfl hu (by rw [eqv_pair]; exact q)
end
end
end Mine

end

/-! Calc3 -/
section
open PySem PySem.W PySem.Calls PyProof.Rows
set_option Elab.async false
set_option linter.unusedVariables false
set_option linter.unusedSectionVars false
namespace Mine
inductive Out where
  | next (Γ : Vars)
  | ret (R : Heap → Value → Prop)
  | retB (base : Heap) (R : Heap → Value → Prop)
section
variable {w : World} {A : Around} {h₀ : Heap} {L : Addr} {Γ Γ' : Vars} {env : Env}

def Out.post (w : World) (h₀ : Heap) (L : Addr) (s : Shared) (Q : Flow → Shared → Prop) : Out → Prop
  | .next Γ' => ∀ h' tk', Cx w h₀ L Γ' h' → Q .next { s with heap := h', toks := tk' }
  | .ret R => ∀ v h' tk', HLe h₀ h' → R h' v → Q (.ret v) { s with heap := h', toks := tk' }
  | .retB base R => ∀ v h' tk', HLe base h' → R h' v → Q (.ret v) { s with heap := h', toks := tk' }
def Sx (w : World) (A : Around) (h₀ : Heap) (L : Addr) (Γ : Vars) (t : Sem Flow) (o : Out) : Prop :=
  ∀ (s : Shared) (Q : Flow → Shared → Prop) (E : Value → Shared → Prop), Cx w h₀ L Γ s.heap → o.post w h₀ L s Q → wpAny (model PR w) A t Q E s

theorem Sx.nil : Sx w A h₀ L Γ (execs [] env) (.next Γ) := fun s Q E c q => wpAny_execs_nil (q s.heap s.toks c)
theorem Sx.cons {st : Stmt} {rest : List Stmt} {o : Out} (h₁ : Sx w A h₀ L Γ (exec st env) (.next Γ')) (h₂ : Sx w A h₀ L Γ' (execs rest env) o) : Sx w A h₀ L Γ (execs (st :: rest) env) o :=
  fun s Q E c q => wpAny_execs_cons (h₁ s _ _ c fun h' tk' c' => h₂ _ _ _ c' (by cases o <;> exact q))
theorem Sx.last {st : Stmt} {rest : List Stmt} {R : Heap → Value → Prop} (h₁ : Sx w A h₀ L Γ (exec st env) (.ret R)) : Sx w A h₀ L Γ (execs (st :: rest) env) (.ret R) :=
  fun s Q E c q => wpAny_execs_cons (h₁ s _ _ c fun v h' tk' l r => q v h' tk' l r)
theorem Sx.ret {e : Expr} {pos : Pos} {R : Heap → Value → Prop} (h : Ev w A (Cx w h₀ L Γ) (eval e env) R) : Sx w A h₀ L Γ (exec (.Return (some e) pos) env) (.ret R) :=
  fun s Q E c q => wpAny_Return_some (h s _ _ c fun v h' tk' l r => q v h' tk' (c.le.trans l) r)
theorem Sx.ite {test : Expr} {body orelse : List Stmt} {pos : Pos} {b : Bool} {o : Out} (h : EvB w A (Cx w h₀ L Γ) (isTrue test env (eval test env)) b)
    (h₁ : b = true → Sx w A h₀ L Γ (execs body env) o) (h₂ : b = false → Sx w A h₀ L Γ (execs orelse env) o) : Sx w A h₀ L Γ (exec (.If test body orelse pos) env) o :=
  fun s Q E c q => wpAny_If (h s _ _ c fun h' tk' l => by
    cases b with
    | true => exact h₁ rfl _ _ _ (c.mono l) (by cases o <;> exact q)
    | false => exact h₂ rfl _ _ _ (c.mono l) (by cases o <;> exact q))
/-- an early return, or the rest -/
theorem Sx.guard {test : Expr} {body rest : List Stmt} {pos : Pos} {b : Bool} {R : Heap → Value → Prop} (h : EvB w A (Cx w h₀ L Γ) (isTrue test env (eval test env)) b)
    (h₁ : b = true → Sx w A h₀ L Γ (execs body env) (.ret R)) (h₂ : b = false → Sx w A h₀ L Γ (execs rest env) (.ret R)) : Sx w A h₀ L Γ (execs (.If test body [] pos :: rest) env) (.ret R) := by
  cases b with
  | true => exact .last (.ite h (fun _ => h₁ rfl) fun e => (nomatch e))
  | false => exact .cons (.ite h (fun e => (nomatch e)) fun _ => .nil) (h₂ rfl)

/-- a test that fails -/
theorem Sx.pass {test : Expr} {body rest : List Stmt} {pos : Pos} {b : Bool} {o : Out} (h : EvB w A (Cx w h₀ L Γ) (isTrue test env (eval test env)) b) (hb : b = false)
    (h₂ : Sx w A h₀ L Γ (execs rest env) o) : Sx w A h₀ L Γ (execs (.If test body [] pos :: rest) env) o := by
  subst hb
  exact .cons (.ite h (fun e => (nomatch e)) fun _ => .nil) h₂

theorem st {x : Str} {v : Value} {d : D} {s : Shared} {Q : Unit → Shared → Prop} {E : Value → Shared → Prop} (c : Cx w h₀ L Γ s.heap) (t : Ty s.heap v d) (hl : env.kindOf x = some .local) (hL : env.locals = L) (hk : env.scope.kind = .function)
    (q : ∀ h' tk', Cx w h₀ L (upd Γ x d) h' → (∀ u e, Ty s.heap u e → Ty h' u e) → Q () { s with heap := h', toks := tk' }) : wpAny (model PR w) A (storeName env x v) Q E s := by
  obtain ⟨m, n, p⟩ := c.hv
  subst hL
  exact wpAny_storeName_local hl n (fun h' n' sb => q h' _ (Cx.store c.g c.le c.above n p t n' sb) fun u e k => k.same n sb) (by rw [hk]; rfl)

theorem Sx.set {x : Str} {px pos : Pos} {e : Expr} {d : D} (h : Ev w A (Cx w h₀ L Γ) (eval e env) (Is d)) (hl : env.kindOf x = some .local) (hL : env.locals = L) (hk : env.scope.kind = .function)
    (hs : swapsWith e (some (.Name x px)) pos.line env = pure false := by rfl) : Sx w A h₀ L Γ (exec (.Assign [.Name x px] e pos) env) (.next (upd Γ x d)) :=
  fun s Q E c q => wpAny_Assign_Name (h s _ _ c fun v h' tk' l r => st (c.mono l) r hl hL hk fun h'' tk'' c' _ => q h'' tk'' c') hs

theorem Sx.aug {x : Str} {px pos : Pos} {op : Operator} {e : Expr} {a b d : D} (ha : Γ.lookup x = some a) (h : Ev w A (Cx w h₀ L Γ) (eval e env) (Is b))
    (hop : ∀ (s : Shared) (x y : Value) (Q E : Value → Shared → Prop), Ty s.heap x a → Ty s.heap y b → (∀ v h' tk', HLe s.heap h' → Ty h' v d → Q v { s with heap := h', toks := tk' }) → wpAny (model PR w) A (inplaceOp op x y) Q E s)
    (hl : env.kindOf x = some .local) (hL : env.locals = L) (hk : env.scope.kind = .function) : Sx w A h₀ L Γ (exec (.AugAssign (.Name x px) op e pos) env) (.next (upd Γ x d)) := by
  intro s Q E c q
  refine wpAny_AugAssign_Name ?_
  obtain ⟨m, n, p⟩ := c.hv
  obtain ⟨v, hv, t⟩ := p x a ha
  subst hL
  exact wpAny_loadName_local hk hl n hv (h s _ _ c fun u h' tk' l r => hop _ v u _ _ (t.mono l) r fun z h'' tk'' l' r' => st (c.mono (l.trans l')) r' hl rfl hk fun h3 tk3 c' _ => q h3 tk3 c')

theorem two_in_order {M : Model} {t₁ t₂ : Value → Sem Unit} {x₁ x₂ : Value} {s : Shared} {Q : Unit → Shared → Prop} {E : Value → Shared → Prop}
    (h : wpAny M A (t₁ x₁) (fun _ s₁ => wpAny M A (t₂ x₂) Q E s₁) E s) : wpAny M A (assignInOrder [t₁, t₂] [x₁, x₂]) Q E s := by
  rw [assignInOrder]
  refine wpAny_bind (wpAny_holding (wpAny_mono h (fun _ s₁ h₁ => ?_) fun _ _ x => x))
  rw [assignInOrder]
  refine wpAny_bind (wpAny_holding (wpAny_mono h₁ (fun _ s₁ h₂ => ?_) fun _ _ x => x))
  rw [assignInOrder]
  · exact wpAny_pure h₂
  · intro _ _ _ _ e; cases e

theorem unp2 {t : Addr} {a b : Value} {n : Nat} {s : Shared} {Q : List Value → Shared → Prop} {E : Value → Shared → Prop} (hh : A.handled = none) (ht : IsTup s.heap t #[a, b]) (hn : n = 2)
    (h : ∀ h', Heap.ExtBut s.heap.objs.size s.heap h' → Q [a, b] { s with heap := h' }) : wpAny (model PR w) A (unpackItems (.ref t) n none) Q E s := by
  have e : n = (#[a, b] : Array Value).size := hn
  rw [e]
  exact unpackItems_tuple hh ht h

theorem Sx.unpack {x y : Str} {px py tpos pos : Pos} {k : Nat} {e : Expr} {p : Int × Int} (hh : A.handled = none) (h : Ev w A (Cx w h₀ L Γ) (eval e env) (Is (.pair p)))
    (hl : env.kindOf x = some .local) (hl' : env.kindOf y = some .local) (hL : env.locals = L) (hk : env.scope.kind = .function)
    (hs : swapsWithSole [.Tuple [.Name x px, .Name y py] k tpos] e pos.line env = pure false := by rfl)
    (hw : swappedStores [.Tuple [.Name x px, .Name y py] k tpos] e env = pure none := by rfl) :
    Sx w A h₀ L Γ (exec (.Assign [.Tuple [.Name x px, .Name y py] k tpos] e pos) env) (.next (upd (upd Γ x (.int p.1)) y (.int p.2))) := by
  intro s Q E c q
  refine Assign_Tuple (h s _ _ c fun v h' tk' l r => ?_) hs hw
  cases r with
  | @pair' r p t u n o e' ec ed =>
    refine assign_Tuple_tuple hh (isTup_of e' ec ed) rfl rfl fun h2 x2 => ?_
    have c2 := c.mono (l.trans (HLe.extBut x2))
    refine two_in_order (t₁ := assign (.Name x px) env) (t₂ := assign (.Name y py) env) ?_
    refine PyProof.Rows.assign_Name (st c2 (.int p.1 t) hl hL hk fun h3 tk3 c3 _ => ?_)
    exact PyProof.Rows.assign_Name (st c3 (.int p.2 u) hl' hL hk fun h4 tk4 c4 _ => q h4 tk4 c4)

theorem Tys.two {h : Heap} {d₁ d₂ : D} : ∀ {vs : List Value}, Tys h vs [d₁, d₂] → ∃ a b, vs = [a, b] ∧ Ty h a d₁ ∧ Ty h b d₂
  | [], x => x.elim
  | [_], x => x.2.elim
  | [a, b], x => ⟨a, b, rfl, x.1, x.2.1⟩
  | _ :: _ :: _ :: _, x => x.2.2.elim
theorem Sx.both {x y : Str} {px py tpos pos vpos : Pos} {k k' : Nat} {e₁ e₂ : Expr} {d₁ d₂ : D} (hh : A.handled = none) (h₁ : Ev w A (Cx w h₀ L Γ) (eval e₁ env) (Is d₁)) (h₂ : Ev w A (Cx w h₀ L Γ) (eval e₂ env) (Is d₂))
    (hl : env.kindOf x = some .local) (hl' : env.kindOf y = some .local) (hL : env.locals = L) (hk : env.scope.kind = .function)
    (hs : swapsWithSole [.Tuple [.Name x px, .Name y py] k tpos] (.Tuple [e₁, e₂] k' vpos) pos.line env = pure false := by rfl)
    (hw : swappedStores [.Tuple [.Name x px, .Name y py] k tpos] (.Tuple [e₁, e₂] k' vpos) env = pure (some [x, y]) := by rfl)
    (he₁ : starEach [e₁, e₂] env = (false, eval e₁ env) :: starEach [e₂] env := by rfl) (he₂ : starEach [e₂] env = (false, eval e₂ env) :: starEach [] env := by rfl) :
    Sx w A h₀ L Γ (exec (.Assign [.Tuple [.Name x px, .Name y py] k tpos] (.Tuple [e₁, e₂] k' vpos) pos) env) (.next (upd (upd Γ y d₂) x d₁)) := by
  intro s Q E c q
  refine Assign_Tuple_swapped (names := [x, y]) ?_ hs hw
  refine Tuple_ (EvL.cons Cx.Mono h₁ (EvL.cons Cx.Mono h₂ EvL.nil he₂) he₁ s _ _ c fun vs h' tk' l r => ?_)
  obtain ⟨a, b, rfl, ta, tb⟩ := r.two
  refine wpAny_newTuple ?_ (by show 2 ≤ sizeLine; rw [sizeLine_eq]; decide)
  have ht : IsTup (h'.push { cls := .type "tuple", data := .seq [a, b].toArray }) h'.objs.size #[a, b] := ⟨_, Heap.get?_push_size _ rfl, rfl, 0, rfl⟩
  refine unp2 hh ht rfl fun h2 x2 => ?_
  have l2 := (HLe.push (h := h') { cls := .type "tuple", data := .seq [a, b].toArray }).trans (HLe.extBut x2)
  have c2 := c.mono (l.trans l2)
  refine two_in_order (t₁ := bindName env y) (t₂ := bindName env x) ?_
  refine wpAny_bindName (st c2 (tb.mono l2) hl' hL hk fun h3 tk3 c3 k3 => ?_)
  exact wpAny_bindName (st c3 (k3 _ _ (ta.mono l2)) hl hL hk fun h4 tk4 c4 _ => q h4 tk4 c4)

theorem Sx.whil {σ : Type} {test : Expr} {body : List Stmt} {pos : Pos} (Γf : σ → Vars) (P : σ → Prop) (c : σ → Bool) (step : σ → σ) (μ : σ → Nat) (out : σ → σ)
    (ht : ∀ x, P x → EvB w A (Cx w h₀ L (Γf x)) (isTrue test env (eval test env)) (c x))
    (hb : ∀ x, P x → c x = true → Sx w A h₀ L (Γf x) (execs body env) (.next (Γf (step x))))
    (hP : ∀ x, P x → c x = true → P (step x) ∧ μ (step x) < μ x ∧ out (step x) = out x)
    (h0 : ∀ x, P x → c x = false → out x = x) (x : σ) (hx : P x) : Sx w A h₀ L (Γf x) (exec (.While test body [] pos) env) (.next (Γf (out x))) := by
  intro s Q E c₀ q
  refine wpAny_While (codeAny_whileLoop (fun n s' => ∃ y h tk, P y ∧ μ y = n ∧ out y = out x ∧ s' = { s with heap := h, toks := tk } ∧ Cx w h₀ L (Γf y) h) ?_ (μ x) ⟨x, s.heap, s.toks, hx, rfl, rfl, rfl, c₀⟩)
  rintro n _ ⟨y, h, tk, hy, rfl, ho, rfl, cy⟩
  refine ht y hy _ _ _ cy fun h' tk' l => ?_
  cases hc : c y with
  | true =>
    obtain ⟨p1, p2, p3⟩ := hP y hy hc
    exact hb y hy hc _ _ _ (cy.mono l) fun h2 tk2 c2 => ⟨_, p2, step y, h2, tk2, p1, rfl, p3.trans ho, rfl, c2⟩
  | false =>
    have e : y = out x := (h0 y hy hc).symm.trans ho
    subst e
    exact wpAny_execs_nil (q h' tk' (cy.mono l))
end

section
theorem lk_rev {h : Heap} : ∀ (names : List Str) (vs : List Value) (ds : List D) (av : List (Str × Value)) (ad : Vars), Tys h vs ds → names.length = ds.length →
    (∀ x d, ad.lookup x = some d → ∃ v, av.lookup x = some v ∧ Ty h v d) →
    ∀ x d, (List.reverseAux (names.zip ds) ad).lookup x = some d → ∃ v, (List.reverseAux (names.zip vs) av).lookup x = some v ∧ Ty h v d
  | [], [], [], av, ad, _, _, hp => hp
  | n :: ns, v :: vs, d :: ds, av, ad, ht, hl, hp => lk_rev ns vs ds ((n, v) :: av) ((n, d) :: ad) ht.2 (by simpa using hl) fun x e hx => by
      simp only [List.lookup] at hx ⊢
      cases hxn : x == n with
      | true =>
        rw [hxn] at hx
        cases hx
        exact ⟨v, rfl, ht.1⟩
      | false => rw [hxn] at hx; exact hp x e hx
  | [], _ :: _, _, _, _, ht, hl, _ => by cases ‹List D› <;> simp_all [Tys]
  | _ :: _, [], [], _, _, _, hl, _ => by simp at hl
  | [], [], _ :: _, _, _, ht, _, _ => ht.elim
  | _ :: _, [], _ :: _, _, _, ht, _, _ => ht.elim
  | _ :: _, _ :: _, [], _, _, ht, _, _ => ht.elim

theorem Tys.len {h : Heap} : ∀ {vs : List Value} {ds : List D}, Tys h vs ds → vs.length = ds.length
  | [], [], _ => rfl
  | _ :: _, _ :: _, x => by simp [Tys.len x.2]
  | [], _ :: _, x => x.elim
  | _ :: _, [], x => x.elim

theorem Con.of {w : World} {f : Addr} {o : Obj} {fd : FuncData} {k : Nat} {names : List Str} {ds : List D} {body : List Stmt} {R : Heap → Value → Prop}
    (ho : (KF w).lookup f = some o) (hd : o.data = .func fd) (hcd : codeIn (KF w) fd.code fd.qualname = true) (hbody : fd.body = .stmts body) (hn : names.length = ds.length)
    (hbind : ∀ vs : List Value, vs.length = names.length → bindArgs fd ⟨vs, []⟩ = pure (names.zip vs))
    (hcell : (fd.scope.names.all fun x => !decide (x.2 = .cell)) = true) (hloc : (names.all fun x => decide (fd.scope.names.lookup x = some .local)) = true)
    (hco : fd.scope.isCoroutine = false) (hgen : fd.scope.isGenerator = false) (hk : fd.scope.kind = .function)
    (h : ∀ (A : Around) (h₀ : Heap) (L : Addr), Rm A k → Sx w A h₀ L (names.zip ds).reverse (execs body (callEnv fd L f)) (.ret R)) : Con w f (k + 1) ds R := by
  intro A s vs Q E r g t q
  obtain ⟨X, mean, mg, mb, T⟩ := id g
  refine wpAny_call (codeAny_call_def (binds := names.zip vs) (by have := r.hd; omega) (X _ _ ho) hd T.nolimit (codeRec_of X hcd) hbody (BindsTo.of_eq (hbind vs (t.len.trans hn.symm))) (fun x hx => by simpa using List.all_eq_true.mp hcell x hx)
    (fun x hx => of_decide_eq_true (List.all_eq_true.mp hloc x.1 (List.of_mem_zip (a := x.1) (b := x.2) hx).1)) (fun h₁ hns hk₁ => ?_) hco hgen hk)
  exact h (A.deeper (callEnv fd s.heap.objs.size f)) s.heap s.heap.objs.size r.deeper _ _ _ ⟨g, hk₁, Nat.le_refl _, _, hns, lk_rev names vs ds [] [] (t.mono hk₁) hn (fun _ _ e => by cases e)⟩ fun v h' tk' l r' => q v h' tk' l r'
end
end Mine

end

/-! Calc4 -/
section
open PySem PySem.W PySem.Calls PyProof.Rows
set_option Elab.async false
set_option linter.unusedVariables false
set_option linter.unusedSectionVars false
namespace Mine
section
variable {w : World} {A : Around} {h₀ : Heap} {L : Addr} {Γ Γ' : Vars} {env : Env} {C : Heap → Prop}

theorem Sx.loop {σ : Type} {test : Expr} {body rest : List Stmt} {pos : Pos} {o : Out} (Γf : σ → Vars) (P : σ → Prop) (c : σ → Bool) (step : σ → σ) (μ : σ → Nat)
    (ht : ∀ x, P x → EvB w A (Cx w h₀ L (Γf x)) (isTrue test env (eval test env)) (c x))
    (hb : ∀ x, P x → c x = true → Sx w A h₀ L (Γf x) (execs body env) (.next (Γf (step x))))
    (hP : ∀ x, P x → c x = true → P (step x) ∧ μ (step x) < μ x)
    (hr : ∀ x, P x → c x = false → Sx w A h₀ L (Γf x) (execs rest env) o) (x : σ) (hx : P x) : Sx w A h₀ L (Γf x) (execs (.While test body [] pos :: rest) env) o := by
  intro s Q E c₀ q
  refine wpAny_execs_cons (wpAny_While (codeAny_whileLoop (fun n s' => ∃ y h tk, P y ∧ μ y = n ∧ s' = { s with heap := h, toks := tk } ∧ Cx w h₀ L (Γf y) h) ?_ (μ x) ⟨x, s.heap, s.toks, hx, rfl, rfl, c₀⟩))
  rintro n _ ⟨y, h, tk, hy, rfl, rfl, cy⟩
  refine ht y hy _ _ _ cy fun h' tk' l => ?_
  cases hc : c y with
  | true =>
    obtain ⟨p1, p2⟩ := hP y hy hc
    exact hb y hy hc _ _ _ (cy.mono l) fun h2 tk2 c2 => ⟨_, p2, step y, h2, tk2, p1, rfl, rfl, c2⟩
  | false => exact wpAny_execs_nil (hr y hy hc _ _ _ (cy.mono l) (by cases o <;> exact q))

/-- what a frame of a def of the text knows of its names -/
structure Fn (env : Env) (L : Addr) : Prop where
  hk : env.scope.kind = .function
  hL : env.locals = L
  hg : env.globals = mainGlobals
  hb : env.builtins = builtinsNs

theorem Ev.eq {t : Sem Value} {d d' : D} (h : Ev w A C t (Is d)) (e : d = d') : Ev w A C t (Is d') := e ▸ h
theorem EvB.eq {t : Sem Bool} {d d' : Bool} (h : EvB w A C t d) (e : d = d') : EvB w A C t d' := e ▸ h

theorem Ev.var {x : Str} {pos : Pos} {d : D} (F : Fn env L) (hl : env.kindOf x = some .local) (hd : Γ.lookup x = some d := by rfl) (hb : (x == ("__debug__" : Str)) = false := by decide) :
    Ev w A (Cx w h₀ L Γ) (eval (.Name x pos) env) (Is d) := Ev.loc hd F.hk hl F.hL hb

/-- a def of the top -/
structure At (w : World) (x : Str) (f : Addr) : Prop where
  e : nsIn (KF w) mainGlobals x = some (some (.ref f))
  o : ∃ o fd, (KF w).lookup f = some o ∧ o.data = .func fd
  b : (x == ("__debug__" : Str)) = false

theorem Ev.fn {x : Str} {p pos : Pos} {e : Expr} {rest : List Expr} {f : Addr} {k l : Nat} {ds : List D} {R : Heap → Value → Prop} (F : Fn env L) (kx : env.kindOf x = some .globalImplicit) (at' : At w x f) (r : Rm A l)
    (hc : Con w f k ds R) (ha : EvL w A (Cx w h₀ L Γ) (spliced (backTo pos (starEach (e :: rest) env))) ds) (hkl : k ≤ l := by decide)
    (he : starEach (e :: rest) env = (false, eval e env) :: starEach rest env := by rfl) :
    Ev w A (Cx w h₀ L Γ) (eval (.Call (.Name x p) (e :: rest) [] pos) env) R := by
  obtain ⟨o, fd, ho, hd⟩ := at'.o
  exact Ev.callF Cx.Mono (r.less hkl) (Ev.glob at'.e F.hk kx F.hg at'.b) ho hd hc ha he

theorem Ev.bi {x : Str} {p pos : Pos} {e : Expr} {rest : List Expr} {id : String} {ds : List D} {R : Heap → Value → Prop} (F : Fn env L) (kx : env.kindOf x = some .globalImplicit) (hv : bootBuiltins x = some (.builtin id))
    (hc : ∀ (s : Shared) (vs : List Value) (Q E : Value → Shared → Prop), Tys s.heap vs ds → (∀ v h' tk', HLe s.heap h' → R h' v → Q v { s with heap := h', toks := tk' }) → wpAny (model PR w) A (PySem.call (.builtin id) vs) Q E s)
    (ha : EvL w A (Cx w h₀ L Γ) (spliced (backTo pos (starEach (e :: rest) env))) ds) (hn : nsIn (KF w) mainGlobals x = some none := by rfl) (hm : x ≠ "__name__" := by decide) (hb : (x == ("__debug__" : Str)) = false := by decide)
    (he : starEach (e :: rest) env = (false, eval e env) :: starEach rest env := by rfl)
    (hplain : (backTo pos (starEach rest env)).any (·.1) = false := by rfl) :
    Ev w A (Cx w h₀ L Γ) (eval (.Call (.Name x p) (e :: rest) [] pos) env) R :=
  Ev.callB Cx.Mono (Ev.boot hn hv hm F.hk kx F.hg F.hb hb) ha hc he hplain

theorem Sx.let {x : Str} {px pos : Pos} {e : Expr} {d : D} {rest : List Stmt} {o : Out} (F : Fn env L) (hl : env.kindOf x = some .local) (h : Ev w A (Cx w h₀ L Γ) (eval e env) (Is d))
    (h₂ : Sx w A h₀ L (upd Γ x d) (execs rest env) o)
    (hs : swapsWith e (some (.Name x px)) pos.line env = pure false := by rfl) : Sx w A h₀ L Γ (execs (.Assign [.Name x px] e pos :: rest) env) o :=
  .cons (.set h hl F.hL F.hk hs) h₂
theorem Sx.two {x y : Str} {px py tpos pos : Pos} {k : Nat} {e : Expr} {p : Int × Int} {rest : List Stmt} {o : Out} (F : Fn env L) (hl : env.kindOf x = some .local) (hl' : env.kindOf y = some .local) (hh : A.handled = none)
    (h : Ev w A (Cx w h₀ L Γ) (eval e env) (Is (.pair p))) (h₂ : Sx w A h₀ L (upd (upd Γ x (.int p.1)) y (.int p.2)) (execs rest env) o)
    (hs : swapsWithSole [.Tuple [.Name x px, .Name y py] k tpos] e pos.line env = pure false := by rfl)
    (hw : swappedStores [.Tuple [.Name x px, .Name y py] k tpos] e env = pure none := by rfl) :
    Sx w A h₀ L Γ (execs (.Assign [.Tuple [.Name x px, .Name y py] k tpos] e pos :: rest) env) o :=
  .cons (.unpack hh h hl hl' F.hL F.hk hs hw) h₂
theorem Sx.inc {x : Str} {px pos : Pos} {op : Operator} {e : Expr} {a b d : D} {rest : List Stmt} {o : Out} (F : Fn env L) (hl : env.kindOf x = some .local) (h : Ev w A (Cx w h₀ L Γ) (eval e env) (Is b))
    (hop : ∀ (s : Shared) (x y : Value) (Q E : Value → Shared → Prop), Ty s.heap x a → Ty s.heap y b → (∀ v h' tk', HLe s.heap h' → Ty h' v d → Q v { s with heap := h', toks := tk' }) → wpAny (model PR w) A (inplaceOp op x y) Q E s)
    (h₂ : Sx w A h₀ L (upd Γ x d) (execs rest env) o) (ha : Γ.lookup x = some a := by rfl) : Sx w A h₀ L Γ (execs (.AugAssign (.Name x px) op e pos :: rest) env) o :=
  .cons (.aug ha h hop hl F.hL F.hk) h₂
theorem Sx.back {e : Expr} {pos : Pos} {rest : List Stmt} {R : Heap → Value → Prop} (h : Ev w A (Cx w h₀ L Γ) (eval e env) R) : Sx w A h₀ L Γ (execs (.Return (some e) pos :: rest) env) (.ret R) := .last (.ret h)
end

noncomputable def bodyAt (i : Nat) : List Stmt := match (PySem.Challenge.pw_sa0207_01.main.body)[i]? with
  | some (.FunctionDef _ _ b _ _ _ _ _ _ _) => b
  | _ => []
noncomputable def oAt (w : World) (a : Addr) : Obj := ((KF w).lookup a).getD default
noncomputable def fAt (w : World) (a : Addr) : FuncData := match (oAt w a).data with
  | .func fd => fd
  | _ => default
end Mine

end

/-! F1 -/
section
open PySem PySem.W PySem.Calls PyProof.Rows
set_option Elab.async false
set_option linter.unusedVariables false
set_option linter.unusedSectionVars false
namespace Mine
/-- how many digits -/
def ndN (n : Nat) : Nat := if h : n = 0 then 0 else ndN (n / 10) + 1
termination_by n
decreasing_by omega
theorem ndN_zero : ndN 0 = 0 := by rw [ndN]; rfl
theorem ndN_pos {n : Nat} (h : 0 < n) : ndN n = ndN (n / 10) + 1 := by
  rw [ndN, dif_neg (by omega)]
theorem ndN_nine {n : Nat} (h : 1000000000 ≤ n) : ndN n = ndN (n / 1000000000) + 9 := by
  rw [ndN_pos (n := n) (by omega), ndN_pos (n := n / 10) (by omega), ndN_pos (n := n / 10 / 10) (by omega), ndN_pos (n := n / 10 / 10 / 10) (by omega), ndN_pos (n := n / 10 / 10 / 10 / 10) (by omega),
    ndN_pos (n := n / 10 / 10 / 10 / 10 / 10) (by omega), ndN_pos (n := n / 10 / 10 / 10 / 10 / 10 / 10) (by omega), ndN_pos (n := n / 10 / 10 / 10 / 10 / 10 / 10 / 10) (by omega), ndN_pos (n := n / 10 / 10 / 10 / 10 / 10 / 10 / 10 / 10) (by omega)]
  have e : n / 10 / 10 / 10 / 10 / 10 / 10 / 10 / 10 / 10 = n / 1000000000 := by omega
  rw [e]
def cd (m : Int) : Int := ndN m.natAbs
theorem cd_abs {m n : Int} (h : m.natAbs = n.natAbs) : cd m = cd n := by unfold cd; rw [h]
theorem cd_nine {n : Int} (h : 1000000000 ≤ n) : cd n = cd (n / 1000000000) + 9 := by
  unfold cd
  have e : (n / 1000000000).natAbs = n.natAbs / 1000000000 := by omega
  rw [e, ndN_nine (n := n.natAbs) (by omega)]
  rfl
theorem cd_one {n : Int} (h : 0 < n) : cd n = cd (n / 10) + 1 := by
  unfold cd
  have e : (n / 10).natAbs = n.natAbs / 10 := by omega
  rw [e, ndN_pos (n := n.natAbs) (by omega)]
  rfl
theorem cd_zero : cd 0 = 0 := by unfold cd; rw [show Int.natAbs 0 = 0 from rfl, ndN_zero]; rfl
theorem cd_nonneg (n : Int) : 0 ≤ cd n := Int.natCast_nonneg _

def ab (m : Int) : Int := if m < 0 then -m else m
theorem cd_ab (m : Int) : cd (ab m) = cd m := cd_abs (by unfold ab; split <;> omega)

theorem op_ab {w : World} {A : Around} {a : Int} {s : Shared} {vs : List Value} {Q E : Value → Shared → Prop} (hx : Tys s.heap vs [.int a]) (q : ∀ v h' tk', HLe s.heap h' → Ty h' v (.int (ab a)) → Q v { s with heap := h', toks := tk' }) :
    wpAny (model PR w) A (call (.builtin "abs") vs) Q E s := op_abs hx q

/-- no nought at the end -/
def sz (m e : Int) : Int × Int := if h : m = 0 then (0, 0) else if m % 10 = 0 then sz (m / 10) (e + 1) else (m, e)
termination_by m.natAbs
decreasing_by omega
theorem sz_zero (e : Int) : sz 0 e = (0, 0) := by rw [sz]; rfl
theorem sz_stop {m e : Int} (h : m ≠ 0) (k : m % 10 ≠ 0) : sz m e = (m, e) := by rw [sz, dif_neg h, if_neg k]
theorem sz_go {m e : Int} (h : m ≠ 0) (k : m % 10 = 0) : sz m e = sz (m / 10) (e + 1) := by rw [sz, dif_neg h, if_pos k]

/-- half to even -/
def up (a power : Int) : Int := if (decide (power < 2 * (a % power)) || ((2 * (a % power) == power) && (a / power % 2 == 1))) then a / power + 1 else a / power
def rd (m e dg : Int) : Int × Int :=
  if 0 < cd m - dg then sz (if 0 < m then up (ab m) (10 ^ (cd m - dg).toNat) else -up (ab m) (10 ^ (cd m - dg).toNat)) (e + (cd m - dg)) else sz m e
def rr (m e dg : Int) : Int × Int :=
  if (rd m e dg).1 = 0 ∨ (rd m e dg).2 + cd (rd m e dg).1 - 1 < -90 then (0, 0) else rd m e dg
def lo (a b : Int) : Int := if b < a then b else a
def ea (x y : Int × Int) : Int × Int :=
  if x.1 = 0 then y else if y.1 = 0 then x else (x.1 * 10 ^ (x.2 - lo x.2 y.2).toNat + y.1 * 10 ^ (y.2 - lo x.2 y.2).toNat, lo x.2 y.2)
def em (x y : Int × Int) : Int × Int := (x.1 * y.1, x.2 + y.2)
def rn (x : Int × Int) : Int × Int := (-x.1, x.2)
def hi0 (a : Int) : Int := if 0 > a then 0 else a
def qk (over under sh : Int) : Int := 10 * (ab over * 10 ^ sh.toNat / ab under) + (if ab over * 10 ^ sh.toNat % ab under = 0 then 0 else 1)
def qt (over under e dg : Int) : Int × Int :=
  let sh := hi0 (dg + 2 + cd under - cd over)
  (if decide (over < 0) != decide (under < 0) then -qk over under sh else qk over under sh, e - sh - 1)
def ra (x y : Int × Int) (dg : Int) : Int × Int := rr (ea x y).1 (ea x y).2 dg
def rs (x y : Int × Int) (dg : Int) : Int × Int := rr (ea x (rn y)).1 (ea x (rn y)).2 dg
def rm (x y : Int × Int) (dg : Int) : Int × Int := rr (em x y).1 (em x y).2 dg
def rv (x y : Int × Int) (dg : Int) : Int × Int := rr (qt x.1 y.1 (x.2 - y.2) dg).1 (qt x.1 y.1 (x.2 - y.2) dg).2 dg
def sg (m : Int) : Int := if m = 0 then 0 else if 0 < m then 1 else -1
def cp (x y : Int × Int) : Int := sg (ea x (rn y)).1
def ga (a b : Int) : Bool := decide (0 ≤ a * b) && ((a != 0) || (b == 0))

theorem log2_pow10 {k : Nat} (h : k ≤ 2000) : ((10 : Int) ^ k).natAbs.log2 < 9000 := by
  have e : ((10 : Int) ^ k).natAbs = 10 ^ k := by rw [Int.natAbs_pow]; rfl
  rw [e]
  refine (Nat.log2_lt (Nat.ne_of_gt (Nat.pow_pos (by decide)))).mpr ?_
  calc 10 ^ k ≤ 16 ^ k := Nat.pow_le_pow_left (by decide) k
    _ = 2 ^ (4 * k) := by rw [Nat.pow_mul]
    _ < 2 ^ 9000 := Nat.pow_lt_pow_right (by decide) (by omega)
theorem pow10_pos (k : Nat) : (0 : Int) < 10 ^ k := Int.pow_pos (by decide)
theorem bits10 : Builtin.Int.intBits 10 = 4 := by decide +kernel

section
variable {w : World} {A : Around} {h₀ : Heap} {L : Addr} {env : Env}

theorem body_count_digits (F : Fn env L) (k1 : env.kindOf "n" = some .local) (k2 : env.kindOf "count" = some .local) (k3 : env.kindOf "abs" = some .globalImplicit) (n : Int) :
    Sx w A h₀ L [("n", .int n)] (execs (bodyAt 5) env) (.ret (Is (.int (cd n)))) := by
  refine Sx.let F k1 (d := .int (ab n)) (Ev.bi F k3 boot_abs (fun s vs Q E => op_abs) (EvL.cons Cx.Mono (Ev.var F k1) EvL.nil)) ?_
  refine Sx.let F k2 Ev.int ?_
  refine Sx.loop (fun x : Int × Int => [("n", .int x.1), ("count", .int x.2)]) (fun x => 0 ≤ x.1 ∧ x.2 + cd x.1 = cd n) (fun x => decide (1000000000 ≤ x.1)) (fun x => (x.1 / 1000000000, x.2 + 9)) (fun x => x.1.toNat) ?_ ?_ ?_ ?_ (ab n, 0) ?_
  · exact fun x _ => EvB.cmp Cx.Mono (Ev.var F k1) Ev.int (fun s a b Q E => cp_ge)
  · exact fun x _ _ => Sx.inc F k1 Ev.int (fun s a b Q E => op_ifloordiv (by decide) (by decide)) (Sx.inc F k2 Ev.int (fun s a b Q E => op_iadd) Sx.nil)
  · intro x hx hc
    have hc' : 1000000000 ≤ x.1 := by simpa using hc
    have := cd_nine hc'
    refine ⟨⟨by show 0 ≤ x.1 / 1000000000; omega, ?_⟩, ?_⟩
    · show x.2 + 9 + cd (x.1 / 1000000000) = cd n
      have := hx.2; omega
    · show (x.1 / 1000000000).toNat < x.1.toNat
      omega
  · intro x hx _
    refine Sx.loop (fun x : Int × Int => [("n", .int x.1), ("count", .int x.2)]) (fun x => 0 ≤ x.1 ∧ x.2 + cd x.1 = cd n) (fun x => decide (0 < x.1)) (fun x => (x.1 / 10, x.2 + 1)) (fun x => x.1.toNat) ?_ ?_ ?_ ?_ x hx
    · exact fun x _ => EvB.cmp Cx.Mono (Ev.var F k1) Ev.int (fun s a b Q E => cp_gt)
    · exact fun x _ _ => Sx.inc F k1 Ev.int (fun s a b Q E => op_ifloordiv (by decide) (by decide)) (Sx.inc F k2 Ev.int (fun s a b Q E => op_iadd) Sx.nil)
    · intro x hx hc
      have hc' : 0 < x.1 := by simpa using hc
      have := cd_one hc'
      refine ⟨⟨by show 0 ≤ x.1 / 10; omega, ?_⟩, ?_⟩
      · show x.2 + 1 + cd (x.1 / 10) = cd n
        have := hx.2; omega
      · show (x.1 / 10).toNat < x.1.toNat
        omega
    · intro y hy hc
      have hc' : ¬ 0 < y.1 := by simpa using hc
      have h0 : y.1 = 0 := by have := hy.1; omega
      refine Sx.back (Ev.eq (Ev.var F k2) ?_)
      have := hy.2
      rw [h0, cd_zero] at this
      rw [← this, Int.add_zero]
  · refine ⟨?_, ?_⟩
    · show 0 ≤ ab n
      unfold ab; split <;> omega
    · show 0 + cd (ab n) = cd n
      rw [cd_ab, Int.zero_add]

theorem body_strip_zeros (F : Fn env L) (k1 : env.kindOf "m" = some .local) (k2 : env.kindOf "e" = some .local) (k3 : env.kindOf "NOUGHT" = some .globalImplicit) (m e : Int) :
    Sx w A h₀ L [("e", .int e), ("m", .int m)] (execs (bodyAt 6) env) (.ret (Is (.pair (sz m e)))) := by
  refine Sx.guard (EvB.cmp Cx.Mono (Ev.var F k1) Ev.int (fun s a b Q E => cp_eq)) (fun h => ?_) (fun h => ?_)
  · have h0 : m = 0 := by simpa using h
    subst h0
    rw [sz_zero]
    exact Sx.back (Ev.globPair (r := 47) (by rfl) (by rfl) F.hk k3 F.hg (by decide))
  · have h0 : m ≠ 0 := by simpa using h
    refine Sx.loop (fun x : Int × Int => [("e", .int x.2), ("m", .int x.1)]) (fun x => x.1 ≠ 0 ∧ sz x.1 x.2 = sz m e) (fun x => x.1 % 10 == 0) (fun x => (x.1 / 10, x.2 + 1)) (fun x => x.1.natAbs) ?_ ?_ ?_ ?_ (m, e) ⟨h0, rfl⟩
    · exact fun x _ => EvB.cmp Cx.Mono (Ev.two Cx.Mono (Ev.var F k1) Ev.int (fun s a b Q E => op_mod (by decide))) Ev.int (fun s a b Q E => cp_eq)
    · exact fun x _ _ => Sx.inc F k1 Ev.int (fun s a b Q E => op_ifloordiv (by decide) (by decide)) (Sx.inc F k2 Ev.int (fun s a b Q E => op_iadd) Sx.nil)
    · intro x hx hc
      have hc' : x.1 % 10 = 0 := by simpa using hc
      have hx1 := hx.1
      refine ⟨⟨?_, ?_⟩, ?_⟩
      · show x.1 / 10 ≠ 0; omega
      · exact (sz_go hx1 hc').symm.trans hx.2
      · show (x.1 / 10).natAbs < x.1.natAbs; omega
    · intro x hx hc
      have hc' : x.1 % 10 ≠ 0 := by simpa using hc
      have e := hx.2
      rw [sz_stop hx.1 hc'] at e
      rw [← e]
      exact Sx.back (Ev.tup Cx.Mono (Ev.var F k1) (Ev.var F k2))
end
end Mine

end

/-! F2 -/
section
open PySem PySem.W PySem.Calls PyProof.Rows
set_option Elab.async false
set_option linter.unusedVariables false
set_option linter.unusedSectionVars false
namespace Mine
section
variable {w : World}
theorem con_cd (n : Int) : Con w 54 1 [.int n] (Is (.int (cd n))) := by
  refine Con.of (names := ["n"]) (body := bodyAt 5) (o := oAt w 54) (fd := fAt w 54) (by rfl) (by rfl) (by rfl) (by rfl) rfl ?_ (by rfl) (by rfl) (by rfl) (by rfl) (by rfl) ?_
  · intro vs hv
    match vs, hv with
    | [a], _ => rfl
  · intro A h₀ L r
    exact body_count_digits ⟨by rfl, by rfl, by rfl, by rfl⟩ (by rfl) (by rfl) (by rfl) n
theorem at_cd : At w "count_digits" 54 := ⟨by rfl, ⟨oAt w 54, fAt w 54, by rfl, by rfl⟩, by decide⟩

theorem con_sz (m e : Int) : Con w 61 1 [.int m, .int e] (Is (.pair (sz m e))) := by
  refine Con.of (names := ["m", "e"]) (body := bodyAt 6) (o := oAt w 61) (fd := fAt w 61) (by rfl) (by rfl) (by rfl) (by rfl) rfl ?_ (by rfl) (by rfl) (by rfl) (by rfl) (by rfl) ?_
  · intro vs hv
    match vs, hv with
    | [a, b], _ => rfl
  · intro A h₀ L r
    exact body_strip_zeros ⟨by rfl, by rfl, by rfl, by rfl⟩ (by rfl) (by rfl) (by rfl) m e
theorem at_sz : At w "strip_zeros" 61 := ⟨by rfl, ⟨oAt w 61, fAt w 61, by rfl, by rfl⟩, by decide⟩

section
variable {A : Around} {h₀ : Heap} {L : Addr} {env : Env}
theorem body_round_digits (F : Fn env L) (k1 : env.kindOf "m" = some .local) (k2 : env.kindOf "e" = some .local) (k3 : env.kindOf "digits" = some .local) (k4 : env.kindOf "drop" = some .local)
    (k5 : env.kindOf "power" = some .local) (k6 : env.kindOf "kept" = some .local) (k7 : env.kindOf "rest" = some .local) (g1 : env.kindOf "count_digits" = some .globalImplicit)
    (g2 : env.kindOf "divmod" = some .globalImplicit) (g3 : env.kindOf "abs" = some .globalImplicit) (g4 : env.kindOf "strip_zeros" = some .globalImplicit)
    (m e dg : Int) (hm : cd m ≤ 1000) (hdg : 0 ≤ dg) (r : Rm A 1) :
    Sx w A h₀ L [("digits", .int dg), ("e", .int e), ("m", .int m)] (execs (bodyAt 7) env) (.ret (Is (.pair (rd m e dg)))) := by
  refine Sx.let F k4 (Ev.two Cx.Mono (Ev.fn F g1 at_cd r (con_cd m) (EvL.cons Cx.Mono (Ev.var F k1) EvL.nil)) (Ev.var F k3) (fun s a b Q E => op_sub)) ?_
  unfold rd
  by_cases hd : 0 < cd m - dg
  · rw [if_pos hd]
    generalize hD : cd m - dg = drop at hd ⊢
    have hD' : drop ≤ 1000 := by omega
    refine Sx.cons (Γ' := [("digits", .int dg), ("e", .int (e + drop)), ("m", .int (if 0 < m then up (ab m) (10 ^ drop.toNat) else -up (ab m) (10 ^ drop.toNat))), ("drop", .int drop), ("power", .int (10 ^ drop.toNat)), ("kept", .int (up (ab m) (10 ^ drop.toNat))), ("rest", .int (ab m % 10 ^ drop.toNat))])
      (Sx.ite (EvB.cmp Cx.Mono (Ev.var F k4) Ev.int (fun s a b Q E => cp_gt)) (fun _ => ?_) (fun h => absurd hd (by simpa using h))) (Sx.back (Ev.fn F g4 at_sz r (con_sz _ _) (EvL.cons Cx.Mono (Ev.var F k1) (EvL.cons Cx.Mono (Ev.var F k2) EvL.nil))))
    · refine Sx.let F k5 (Ev.two Cx.Mono Ev.int (Ev.var F k4) (fun s a b Q E => op_pow (by omega) (by rw [bits10]; omega))) ?_
      have hp : (0 : Int) < 10 ^ drop.toNat := pow10_pos _
      have hl : ((10 : Int) ^ drop.toNat).natAbs.log2 < 9000 := log2_pow10 (by omega)
      generalize (10 : Int) ^ drop.toNat = P at hp hl ⊢
      refine Sx.two F k6 k7 r.hh (Ev.bi F g2 boot_divmod (fun s vs Q E => op_divmod hp hl) (EvL.cons Cx.Mono (Ev.bi F g3 boot_abs (fun s vs Q E => op_ab) (EvL.cons Cx.Mono (Ev.var F k1) EvL.nil)) (EvL.cons Cx.Mono (Ev.var F k5) EvL.nil))) ?_
      refine Sx.cons (Γ' := [("digits", .int dg), ("e", .int e), ("m", .int m), ("drop", .int drop), ("power", .int P), ("kept", .int (up (ab m) P)), ("rest", .int (ab m % P))])
        (Sx.ite (b := (decide (P < 2 * (ab m % P)) || ((2 * (ab m % P) == P) && (ab m / P % 2 == 1)))) (EvB.eq (EvB.or Cx.Mono (EvB.cmp Cx.Mono (Ev.two Cx.Mono Ev.int (Ev.var F k7) (fun s a b Q E => op_mul (IntMulOk.of_left (by decide +kernel)))) (Ev.var F k5) (fun s a b Q E => cp_gt))
          (fun _ => EvB.or Cx.Mono (EvB.and Cx.Mono (EvB.cmp Cx.Mono (Ev.two Cx.Mono Ev.int (Ev.var F k7) (fun s a b Q E => op_mul (IntMulOk.of_left (by decide +kernel)))) (Ev.var F k5) (fun s a b Q E => cp_eq))
            (fun _ => EvB.and Cx.Mono (EvB.cmp Cx.Mono (Ev.two Cx.Mono (Ev.var F k6) Ev.int (fun s a b Q E => op_mod (by decide))) Ev.int (fun s a b Q E => cp_eq)) (fun _ => EvB.andNil))) (fun _ => EvB.orNil))) (by rw [Bool.and_true, Bool.or_false])) (fun h => ?_) (fun h => ?_)) ?_
      · have e1 : up (ab m) P = ab m / P + 1 := by unfold up; rw [h]; rfl
        rw [e1]
        exact Sx.inc F k6 Ev.int (fun s a b Q E => op_iadd) Sx.nil
      · have e1 : up (ab m) P = ab m / P := by unfold up; rw [h]; rfl
        rw [e1]
        exact Sx.nil
      · refine Sx.let F k1 (d := .int (if 0 < m then up (ab m) P else -up (ab m) P)) (Ev.ite Cx.Mono (EvB.cmp Cx.Mono (Ev.var F k1) Ev.int (fun s a b Q E => cp_gt)) (fun h => ?_) (fun h => ?_)) ?_
        · rw [if_pos (by simpa using h)]; exact Ev.var F k6
        · rw [if_neg (by simpa using h)]; exact Ev.neg Cx.Mono (Ev.var F k6)
        · exact Sx.inc F k2 (Ev.var F k4) (fun s a b Q E => op_iadd) Sx.nil
  · rw [if_neg hd]
    refine Sx.cons (Sx.ite (EvB.cmp Cx.Mono (Ev.var F k4) Ev.int (fun s a b Q E => cp_gt)) (fun h => absurd (of_decide_eq_true h) hd) (fun h => Sx.nil)) ?_
    exact Sx.back (Ev.fn F g4 at_sz r (con_sz _ _) (EvL.cons Cx.Mono (Ev.var F k1) (EvL.cons Cx.Mono (Ev.var F k2) EvL.nil)))
end
theorem con_rd (m e dg : Int) (hm : cd m ≤ 1000) (hdg : 0 ≤ dg) : Con w 68 2 [.int m, .int e, .int dg] (Is (.pair (rd m e dg))) := by
  refine Con.of (names := ["m", "e", "digits"]) (body := bodyAt 7) (o := oAt w 68) (fd := fAt w 68) (by rfl) (by rfl) (by rfl) (by rfl) rfl ?_ (by rfl) (by rfl) (by rfl) (by rfl) (by rfl) ?_
  · intro vs hv
    match vs, hv with
    | [a, b, c], _ => rfl
  · intro A h₀ L r
    exact body_round_digits ⟨by rfl, by rfl, by rfl, by rfl⟩ (by rfl) (by rfl) (by rfl) (by rfl) (by rfl) (by rfl) (by rfl) (by rfl) (by rfl) (by rfl) (by rfl) m e dg hm hdg r
theorem at_rd : At w "round_digits" 68 := ⟨by rfl, ⟨oAt w 68, fAt w 68, by rfl, by rfl⟩, by decide⟩
end
end Mine

end

/-! F3 -/
section
open PySem PySem.W PySem.Calls PyProof.Rows
set_option Elab.async false
set_option linter.unusedVariables false
set_option linter.unusedSectionVars false
namespace Mine
/-- small enough for the machine's exact words -/
def Sm (p : Int × Int) : Prop := -(2 ^ 60) < p.1 ∧ p.1 < 2 ^ 60 ∧ -400 ≤ p.2 ∧ p.2 ≤ 400
def Ok (p : Int × Int) (dg : Int) : Prop := cd p.1 ≤ 1000 ∧ ((rd p.1 p.2 dg).1 = 0 ∨ (rd p.1 p.2 dg).2 + cd (rd p.1 p.2 dg).1 - 1 ≤ 90)
theorem Sm.neg {p : Int × Int} (h : Sm p) : Sm (rn p) := by
  obtain ⟨a, b, c, d⟩ := h
  refine ⟨?_, ?_, c, d⟩
  · show -(2 ^ 60) < -p.1; omega
  · show -p.1 < 2 ^ 60; omega
theorem Sm.bits {p : Int × Int} (h : Sm p) : Builtin.Int.intBits p.1 ≤ 64 := intBits_le_64 (by have := h.1; omega) (by have := h.2.1; omega)
theorem lo_le_left (a b : Int) : lo a b ≤ a := by unfold lo; split <;> omega
theorem lo_le_right (a b : Int) : lo a b ≤ b := by unfold lo; split <;> omega
theorem lo_ge {a b c : Int} (h : c ≤ a) (k : c ≤ b) : c ≤ lo a b := by unfold lo; split <;> omega
section
variable {w : World}
section
variable {A : Around} {h₀ : Heap} {L : Addr} {env : Env}
theorem body_round_real (F : Fn env L) (k1 : env.kindOf "m" = some .local) (k2 : env.kindOf "e" = some .local) (k3 : env.kindOf "digits" = some .local) (k4 : env.kindOf "top" = some .local) (k5 : env.kindOf "lead" = some .local)
    (g1 : env.kindOf "count_digits" = some .globalImplicit) (g2 : env.kindOf "round_digits" = some .globalImplicit) (g3 : env.kindOf "NOUGHT" = some .globalImplicit)
    (m e dg : Int) (hdg : 0 ≤ dg) (ok : Ok (m, e) dg) (r : Rm A 2) :
    Sx w A h₀ L [("top", .int 90), ("digits", .int dg), ("e", .int e), ("m", .int m)] (execs (bodyAt 8) env) (.ret (Is (.pair (rr m e dg)))) := by
  obtain ⟨hm, hl⟩ := ok
  refine Sx.two F k1 k2 r.hh (Ev.fn F g2 at_rd r (con_rd m e dg hm hdg) (EvL.cons Cx.Mono (Ev.var F k1) (EvL.cons Cx.Mono (Ev.var F k2) (EvL.cons Cx.Mono (Ev.var F k3) EvL.nil)))) ?_
  unfold rr
  dsimp only at hl
  generalize rd m e dg = q at hl ⊢
  obtain ⟨a, b⟩ := q
  refine Sx.let F k5 (Ev.two Cx.Mono (Ev.two Cx.Mono (Ev.var F k2) (Ev.fn F g1 at_cd r (con_cd a) (EvL.cons Cx.Mono (Ev.var F k1) EvL.nil)) (fun s a b Q E => op_add)) Ev.int (fun s a b Q E => op_sub)) ?_
  refine Sx.guard (EvB.or Cx.Mono (EvB.cmp Cx.Mono (Ev.var F k1) Ev.int (fun s a b Q E => cp_eq)) (fun _ => EvB.or Cx.Mono (EvB.cmp Cx.Mono (Ev.var F k5) (Ev.neg Cx.Mono (Ev.var F k4)) (fun s a b Q E => cp_lt)) (fun _ => EvB.orNil))) (fun h => ?_) (fun h => ?_)
  · have h' : a = 0 ∨ b + cd a - 1 < -90 := by simpa using h
    rw [if_pos h']
    exact Sx.back (Ev.globPair (r := 47) (by rfl) (by rfl) F.hk g3 F.hg (by decide))
  · have h' : ¬ (a = 0 ∨ b + cd a - 1 < -90) := by
      intro x
      have : (a == 0 || (decide (b + cd a - 1 < -90) || false)) = true := by simpa using x
      exact absurd (this.symm.trans h) (by decide)
    rw [if_neg h']
    refine Sx.guard (EvB.cmp Cx.Mono (Ev.var F k5) (Ev.var F k4) (fun s a b Q E => cp_gt)) (fun h2 => ?_) (fun _ => ?_)
    · have h2' : 90 < b + cd a - 1 := of_decide_eq_true h2
      exfalso
      rcases hl with hl | hl
      · exact h' (.inl hl)
      · have hl : b + cd a - 1 ≤ 90 := hl
        omega
    · exact Sx.back (Ev.tup Cx.Mono (Ev.var F k1) (Ev.var F k2))

theorem body_exact_add (F : Fn env L) (k1 : env.kindOf "x" = some .local) (k2 : env.kindOf "y" = some .local) (k3 : env.kindOf "low" = some .local) (g1 : env.kindOf "min" = some .globalImplicit)
    (x y : Int × Int) (sx : Sm x) (sy : Sm y) (r : Rm A 0) :
    Sx w A h₀ L [("y", .pair y), ("x", .pair x)] (execs (bodyAt 9) env) (.ret (Is (.pair (ea x y)))) := by
  unfold ea
  refine Sx.guard (EvB.cmp Cx.Mono (Ev.item0 Cx.Mono (Ev.var F k1)) Ev.int (fun s a b Q E => cp_eq)) (fun h => ?_) (fun h => ?_)
  · rw [if_pos (by simpa using h)]; exact Sx.back (Ev.var F k2)
  rw [if_neg (by simpa using h)]
  refine Sx.guard (EvB.cmp Cx.Mono (Ev.item0 Cx.Mono (Ev.var F k2)) Ev.int (fun s a b Q E => cp_eq)) (fun h => ?_) (fun h => ?_)
  · rw [if_pos (by simpa using h)]; exact Sx.back (Ev.var F k1)
  rw [if_neg (by simpa using h)]
  have l1 := lo_le_left x.2 y.2
  have l2 := lo_le_right x.2 y.2
  have l3 := lo_ge sx.2.2.1 sy.2.2.1
  have u1 := sx.2.2.2
  have u2 := sy.2.2.2
  refine Sx.let F k3 (d := .int (lo x.2 y.2)) (Ev.bi F g1 boot_min (fun s vs Q E => op_min r.hh) (EvL.cons Cx.Mono (Ev.item1 Cx.Mono (Ev.var F k1)) (EvL.cons Cx.Mono (Ev.item1 Cx.Mono (Ev.var F k2)) EvL.nil))) ?_
  generalize lo x.2 y.2 = l at l1 l2 l3 ⊢
  refine Sx.back (Ev.tup Cx.Mono (Ev.two Cx.Mono
    (Ev.two Cx.Mono (Ev.item0 Cx.Mono (Ev.var F k1)) (Ev.two Cx.Mono Ev.int (Ev.two Cx.Mono (Ev.item1 Cx.Mono (Ev.var F k1)) (Ev.var F k3) (fun s a b Q E => op_sub)) (fun s a b Q E => op_pow (by omega) (by rw [bits10]; omega))) (fun s a b Q E => op_mul (IntMulOk.of_left sx.bits)))
    (Ev.two Cx.Mono (Ev.item0 Cx.Mono (Ev.var F k2)) (Ev.two Cx.Mono Ev.int (Ev.two Cx.Mono (Ev.item1 Cx.Mono (Ev.var F k2)) (Ev.var F k3) (fun s a b Q E => op_sub)) (fun s a b Q E => op_pow (by omega) (by rw [bits10]; omega))) (fun s a b Q E => op_mul (IntMulOk.of_left sy.bits)))
    (fun s a b Q E => op_add)) (Ev.var F k3))

theorem body_exact_mul (F : Fn env L) (k1 : env.kindOf "x" = some .local) (k2 : env.kindOf "y" = some .local) (x y : Int × Int) (sx : Sm x) :
    Sx w A h₀ L [("y", .pair y), ("x", .pair x)] (execs (bodyAt 10) env) (.ret (Is (.pair (em x y)))) :=
  Sx.back (Ev.tup Cx.Mono (Ev.two Cx.Mono (Ev.item0 Cx.Mono (Ev.var F k1)) (Ev.item0 Cx.Mono (Ev.var F k2)) (fun s a b Q E => op_mul (IntMulOk.of_left sx.bits)))
    (Ev.two Cx.Mono (Ev.item1 Cx.Mono (Ev.var F k1)) (Ev.item1 Cx.Mono (Ev.var F k2)) (fun s a b Q E => op_add)))
theorem body_real_neg (F : Fn env L) (k1 : env.kindOf "x" = some .local) (x : Int × Int) :
    Sx w A h₀ L [("x", .pair x)] (execs (bodyAt 11) env) (.ret (Is (.pair (rn x)))) :=
  Sx.back (Ev.tup Cx.Mono (Ev.neg Cx.Mono (Ev.item0 Cx.Mono (Ev.var F k1))) (Ev.item1 Cx.Mono (Ev.var F k1)))
end
end
end Mine

end

/-! F4 -/
section
open PySem PySem.W PySem.Calls PyProof.Rows
set_option Elab.async false
set_option linter.unusedVariables false
set_option linter.unusedSectionVars false
namespace Mine
section
variable {w : World}
theorem con_rr (m e dg : Int) (hdg : 0 ≤ dg) (ok : Ok (m, e) dg) : Con w 75 3 [.int m, .int e, .int dg, .int 90] (Is (.pair (rr m e dg))) := by
  refine Con.of (names := ["m", "e", "digits", "top"]) (body := bodyAt 8) (o := oAt w 75) (fd := fAt w 75) (by rfl) (by rfl) (by rfl) (by rfl) rfl ?_ (by rfl) (by rfl) (by rfl) (by rfl) (by rfl) ?_
  · intro vs hv
    match vs, hv with
    | [a, b, c, d], _ => rfl
  · intro A h₀ L r
    exact body_round_real ⟨by rfl, by rfl, by rfl, by rfl⟩ (by rfl) (by rfl) (by rfl) (by rfl) (by rfl) (by rfl) (by rfl) (by rfl) m e dg hdg ok r
theorem at_rr : At w "round_real" 75 := ⟨by rfl, ⟨oAt w 75, fAt w 75, by rfl, by rfl⟩, by decide⟩

theorem con_ea (x y : Int × Int) (sx : Sm x) (sy : Sm y) : Con w 82 1 [.pair x, .pair y] (Is (.pair (ea x y))) := by
  refine Con.of (names := ["x", "y"]) (body := bodyAt 9) (o := oAt w 82) (fd := fAt w 82) (by rfl) (by rfl) (by rfl) (by rfl) rfl ?_ (by rfl) (by rfl) (by rfl) (by rfl) (by rfl) ?_
  · intro vs hv
    match vs, hv with
    | [a, b], _ => rfl
  · intro A h₀ L r
    exact body_exact_add ⟨by rfl, by rfl, by rfl, by rfl⟩ (by rfl) (by rfl) (by rfl) (by rfl) x y sx sy r
theorem at_ea : At w "exact_add" 82 := ⟨by rfl, ⟨oAt w 82, fAt w 82, by rfl, by rfl⟩, by decide⟩

theorem con_em (x y : Int × Int) (sx : Sm x) : Con w 89 1 [.pair x, .pair y] (Is (.pair (em x y))) := by
  refine Con.of (names := ["x", "y"]) (body := bodyAt 10) (o := oAt w 89) (fd := fAt w 89) (by rfl) (by rfl) (by rfl) (by rfl) rfl ?_ (by rfl) (by rfl) (by rfl) (by rfl) (by rfl) ?_
  · intro vs hv
    match vs, hv with
    | [a, b], _ => rfl
  · intro A h₀ L r
    exact body_exact_mul ⟨by rfl, by rfl, by rfl, by rfl⟩ (by rfl) (by rfl) x y sx
theorem at_em : At w "exact_mul" 89 := ⟨by rfl, ⟨oAt w 89, fAt w 89, by rfl, by rfl⟩, by decide⟩

theorem con_rn (x : Int × Int) : Con w 96 1 [.pair x] (Is (.pair (rn x))) := by
  refine Con.of (names := ["x"]) (body := bodyAt 11) (o := oAt w 96) (fd := fAt w 96) (by rfl) (by rfl) (by rfl) (by rfl) rfl ?_ (by rfl) (by rfl) (by rfl) (by rfl) (by rfl) ?_
  · intro vs hv
    match vs, hv with
    | [a], _ => rfl
  · intro A h₀ L r
    exact body_real_neg ⟨by rfl, by rfl, by rfl, by rfl⟩ (by rfl) x
theorem at_rn : At w "real_neg" 96 := ⟨by rfl, ⟨oAt w 96, fAt w 96, by rfl, by rfl⟩, by decide⟩

theorem hi0_ge (a : Int) : 0 ≤ hi0 a := by unfold hi0; split <;> omega
theorem hi0_le {a c : Int} (h : a ≤ c) (k : 0 ≤ c) : hi0 a ≤ c := by unfold hi0; split <;> omega
theorem ab_nonneg (a : Int) : 0 ≤ ab a := by unfold ab; split <;> omega
theorem ab_pos {a : Int} (h : a ≠ 0) : 0 < ab a := by unfold ab; split <;> omega
section
variable {A : Around} {h₀ : Heap} {L : Addr} {env : Env}
theorem body_quotient (F : Fn env L) (k1 : env.kindOf "over" = some .local) (k2 : env.kindOf "under" = some .local) (k3 : env.kindOf "e" = some .local) (k4 : env.kindOf "digits" = some .local)
    (k5 : env.kindOf "shift" = some .local) (k6 : env.kindOf "kept" = some .local) (k7 : env.kindOf "rest" = some .local) (k8 : env.kindOf "m" = some .local)
    (g1 : env.kindOf "max" = some .globalImplicit) (g2 : env.kindOf "count_digits" = some .globalImplicit) (g3 : env.kindOf "divmod" = some .globalImplicit) (g4 : env.kindOf "abs" = some .globalImplicit)
    (over under e dg : Int) (hu : under ≠ 0) (ho : Builtin.Int.intBits (ab over) ≤ 64) (hu' : (ab under).natAbs.log2 < 9000) (hs : dg + 2 + cd under ≤ 1000) (r : Rm A 1) :
    Sx w A h₀ L [("digits", .int dg), ("e", .int e), ("under", .int under), ("over", .int over)] (execs (bodyAt 12) env) (.ret (Is (.pair (qt over under e dg)))) := by
  unfold qt
  have b1 := hi0_ge (dg + 2 + cd under - cd over)
  have b2 : hi0 (dg + 2 + cd under - cd over) ≤ 1000 := hi0_le (by have := cd_nonneg over; omega) (by decide)
  refine Sx.let F k5 (d := .int (hi0 (dg + 2 + cd under - cd over))) (Ev.bi F g1 boot_max (fun s vs Q E => op_max r.hh) (EvL.cons Cx.Mono (Ev.two Cx.Mono (Ev.two Cx.Mono (Ev.two Cx.Mono (Ev.var F k4) Ev.int (fun s a b Q E => op_add))
    (Ev.fn F g2 at_cd r (con_cd under) (EvL.cons Cx.Mono (Ev.var F k2) EvL.nil)) (fun s a b Q E => op_add)) (Ev.fn F g2 at_cd r (con_cd over) (EvL.cons Cx.Mono (Ev.var F k1) EvL.nil)) (fun s a b Q E => op_sub)) (EvL.cons Cx.Mono Ev.int EvL.nil))) ?_
  dsimp only
  generalize hi0 (dg + 2 + cd under - cd over) = sh at b1 b2 ⊢
  refine Sx.two F k6 k7 r.hh (Ev.bi F g3 boot_divmod (fun s vs Q E => op_divmod (ab_pos hu) hu') (EvL.cons Cx.Mono (Ev.two Cx.Mono (Ev.bi F g4 boot_abs (fun s vs Q E => op_ab) (EvL.cons Cx.Mono (Ev.var F k1) EvL.nil))
    (Ev.two Cx.Mono Ev.int (Ev.var F k5) (fun s a b Q E => op_pow (by omega) (by rw [bits10]; omega))) (fun s a b Q E => op_mul (IntMulOk.of_left ho))) (EvL.cons Cx.Mono (Ev.bi F g4 boot_abs (fun s vs Q E => op_ab) (EvL.cons Cx.Mono (Ev.var F k2) EvL.nil)) EvL.nil))) ?_
  refine Sx.let F k8 (d := .int (qk over under sh)) (Ev.two Cx.Mono (Ev.two Cx.Mono Ev.int (Ev.var F k6) (fun s a b Q E => op_mul (IntMulOk.of_left (by decide +kernel))))
    (Ev.ite (R := Is (.int (if ab over * 10 ^ sh.toNat % ab under = 0 then 0 else 1))) Cx.Mono (EvB.plainInt (Ev.var F k7)) (fun h => ?_) (fun h => ?_)) (fun s a b Q E => op_add)) ?_
  · rw [if_neg (by simpa using h)]; exact Ev.int
  · rw [if_pos (by simpa using h)]; exact Ev.int
  refine Sx.cons (Γ' := [("digits", .int dg), ("e", .int e), ("under", .int under), ("over", .int over), ("shift", .int sh), ("kept", .int (ab over * 10 ^ sh.toNat / ab under)), ("rest", .int (ab over * 10 ^ sh.toNat % ab under)),
      ("m", .int (if decide (over < 0) != decide (under < 0) then -qk over under sh else qk over under sh))])
    (Sx.ite (EvB.cmp Cx.Mono (Ev.cmp Cx.Mono (Ev.var F k1) Ev.int (fun s a b Q E => cp_lt)) (Ev.cmp Cx.Mono (Ev.var F k2) Ev.int (fun s a b Q E => cp_lt)) (fun s a b Q E => cp_neB)) (fun h => ?_) (fun h => ?_)) ?_
  · rw [if_pos h]
    exact Sx.let F k8 (Ev.neg Cx.Mono (Ev.var F k8)) Sx.nil
  · rw [if_neg (by rw [h]; decide)]
    exact Sx.nil
  · exact Sx.back (Ev.tup Cx.Mono (Ev.var F k8) (Ev.two Cx.Mono (Ev.two Cx.Mono (Ev.var F k3) (Ev.var F k5) (fun s a b Q E => op_sub)) Ev.int (fun s a b Q E => op_sub)))
end
end
end Mine

end

/-! F5 -/
section
open PySem PySem.W PySem.Calls PyProof.Rows
set_option Elab.async false
set_option linter.unusedVariables false
set_option linter.unusedSectionVars false
namespace Mine
theorem sm_ab {p : Int × Int} (h : Sm p) : Builtin.Int.intBits (ab p.1) ≤ 64 := by
  have h1 := h.1; have h2 := h.2.1
  refine intBits_le_64 ?_ ?_ <;> (unfold ab; split <;> omega)
theorem sm_ab_log {p : Int × Int} (h : Sm p) : (ab p.1).natAbs.log2 < 9000 := by
  have h1 := h.1; have h2 := h.2.1
  have e : (ab p.1).natAbs < 2 ^ 60 := by unfold ab; split <;> omega
  by_cases h0 : (ab p.1).natAbs = 0
  · rw [h0]; decide +kernel
  · have := (Nat.log2_lt h0).mpr e
    omega
section
variable {w : World}
theorem con_qt (over under e dg : Int) (hu : under ≠ 0) (ho : Builtin.Int.intBits (ab over) ≤ 64) (hu' : (ab under).natAbs.log2 < 9000) (hs : dg + 2 + cd under ≤ 1000) : Con w 103 2 [.int over, .int under, .int e, .int dg] (Is (.pair (qt over under e dg))) := by
  refine Con.of (names := ["over", "under", "e", "digits"]) (body := bodyAt 12) (o := oAt w 103) (fd := fAt w 103) (by rfl) (by rfl) (by rfl) (by rfl) rfl ?_ (by rfl) (by rfl) (by rfl) (by rfl) (by rfl) ?_
  · intro vs hv
    match vs, hv with
    | [a, b, c, d], _ => rfl
  · intro A h₀ L r
    exact body_quotient ⟨by rfl, by rfl, by rfl, by rfl⟩ (by rfl) (by rfl) (by rfl) (by rfl) (by rfl) (by rfl) (by rfl) (by rfl) (by rfl) (by rfl) (by rfl) (by rfl) over under e dg hu ho hu' hs r
theorem at_qt : At w "quotient" 103 := ⟨by rfl, ⟨oAt w 103, fAt w 103, by rfl, by rfl⟩, by decide⟩

section
variable {A : Around} {h₀ : Heap} {L : Addr} {env : Env}
theorem body_real_add (F : Fn env L) (k1 : env.kindOf "x" = some .local) (k2 : env.kindOf "y" = some .local) (k3 : env.kindOf "digits" = some .local) (k4 : env.kindOf "top" = some .local) (k5 : env.kindOf "m" = some .local) (k6 : env.kindOf "e" = some .local)
    (g1 : env.kindOf "exact_add" = some .globalImplicit) (g2 : env.kindOf "round_real" = some .globalImplicit)
    (x y : Int × Int) (dg : Int) (hdg : 0 ≤ dg) (sx : Sm x) (sy : Sm y) (ok : Ok (ea x y) dg) (r : Rm A 3) :
    Sx w A h₀ L [("top", .int 90), ("digits", .int dg), ("y", .pair y), ("x", .pair x)] (execs (bodyAt 13) env) (.ret (Is (.pair (ra x y dg)))) := by
  refine Sx.two F k5 k6 r.hh (Ev.fn F g1 at_ea r (con_ea x y sx sy) (EvL.cons Cx.Mono (Ev.var F k1) (EvL.cons Cx.Mono (Ev.var F k2) EvL.nil))) ?_
  exact Sx.back (Ev.fn F g2 at_rr r (con_rr _ _ dg hdg ok) (EvL.cons Cx.Mono (Ev.var F k5) (EvL.cons Cx.Mono (Ev.var F k6) (EvL.cons Cx.Mono (Ev.var F k3) (EvL.cons Cx.Mono (Ev.var F k4) EvL.nil)))))
end
theorem con_ra (x y : Int × Int) (dg : Int) (hdg : 0 ≤ dg) (sx : Sm x) (sy : Sm y) (ok : Ok (ea x y) dg) : Con w 110 4 [.pair x, .pair y, .int dg, .int 90] (Is (.pair (ra x y dg))) := by
  refine Con.of (names := ["x", "y", "digits", "top"]) (body := bodyAt 13) (o := oAt w 110) (fd := fAt w 110) (by rfl) (by rfl) (by rfl) (by rfl) rfl ?_ (by rfl) (by rfl) (by rfl) (by rfl) (by rfl) ?_
  · intro vs hv
    match vs, hv with
    | [a, b, c, d], _ => rfl
  · intro A h₀ L r
    exact body_real_add ⟨by rfl, by rfl, by rfl, by rfl⟩ (by rfl) (by rfl) (by rfl) (by rfl) (by rfl) (by rfl) (by rfl) (by rfl) x y dg hdg sx sy ok r
theorem at_ra : At w "real_add" 110 := ⟨by rfl, ⟨oAt w 110, fAt w 110, by rfl, by rfl⟩, by decide⟩

section
variable {A : Around} {h₀ : Heap} {L : Addr} {env : Env}
theorem body_real_sub (F : Fn env L) (k1 : env.kindOf "x" = some .local) (k2 : env.kindOf "y" = some .local) (k3 : env.kindOf "digits" = some .local) (k4 : env.kindOf "top" = some .local) (k5 : env.kindOf "m" = some .local) (k6 : env.kindOf "e" = some .local)
    (g1 : env.kindOf "exact_add" = some .globalImplicit) (g2 : env.kindOf "round_real" = some .globalImplicit) (g3 : env.kindOf "real_neg" = some .globalImplicit)
    (x y : Int × Int) (dg : Int) (hdg : 0 ≤ dg) (sx : Sm x) (sy : Sm y) (ok : Ok (ea x (rn y)) dg) (r : Rm A 3) :
    Sx w A h₀ L [("top", .int 90), ("digits", .int dg), ("y", .pair y), ("x", .pair x)] (execs (bodyAt 14) env) (.ret (Is (.pair (rs x y dg)))) := by
  refine Sx.two F k5 k6 r.hh (Ev.fn F g1 at_ea r (con_ea x (rn y) sx sy.neg) (EvL.cons Cx.Mono (Ev.var F k1) (EvL.cons Cx.Mono (Ev.fn F g3 at_rn r (con_rn y) (EvL.cons Cx.Mono (Ev.var F k2) EvL.nil)) EvL.nil))) ?_
  exact Sx.back (Ev.fn F g2 at_rr r (con_rr _ _ dg hdg ok) (EvL.cons Cx.Mono (Ev.var F k5) (EvL.cons Cx.Mono (Ev.var F k6) (EvL.cons Cx.Mono (Ev.var F k3) (EvL.cons Cx.Mono (Ev.var F k4) EvL.nil)))))
end
theorem con_rs (x y : Int × Int) (dg : Int) (hdg : 0 ≤ dg) (sx : Sm x) (sy : Sm y) (ok : Ok (ea x (rn y)) dg) : Con w 117 4 [.pair x, .pair y, .int dg, .int 90] (Is (.pair (rs x y dg))) := by
  refine Con.of (names := ["x", "y", "digits", "top"]) (body := bodyAt 14) (o := oAt w 117) (fd := fAt w 117) (by rfl) (by rfl) (by rfl) (by rfl) rfl ?_ (by rfl) (by rfl) (by rfl) (by rfl) (by rfl) ?_
  · intro vs hv
    match vs, hv with
    | [a, b, c, d], _ => rfl
  · intro A h₀ L r
    exact body_real_sub ⟨by rfl, by rfl, by rfl, by rfl⟩ (by rfl) (by rfl) (by rfl) (by rfl) (by rfl) (by rfl) (by rfl) (by rfl) (by rfl) x y dg hdg sx sy ok r
theorem at_rs : At w "real_sub" 117 := ⟨by rfl, ⟨oAt w 117, fAt w 117, by rfl, by rfl⟩, by decide⟩

section
variable {A : Around} {h₀ : Heap} {L : Addr} {env : Env}
theorem body_real_mul (F : Fn env L) (k1 : env.kindOf "x" = some .local) (k2 : env.kindOf "y" = some .local) (k3 : env.kindOf "digits" = some .local) (k4 : env.kindOf "top" = some .local) (k5 : env.kindOf "m" = some .local) (k6 : env.kindOf "e" = some .local)
    (g1 : env.kindOf "exact_mul" = some .globalImplicit) (g2 : env.kindOf "round_real" = some .globalImplicit)
    (x y : Int × Int) (dg : Int) (hdg : 0 ≤ dg) (sx : Sm x) (ok : Ok (em x y) dg) (r : Rm A 3) :
    Sx w A h₀ L [("top", .int 90), ("digits", .int dg), ("y", .pair y), ("x", .pair x)] (execs (bodyAt 15) env) (.ret (Is (.pair (rm x y dg)))) := by
  refine Sx.two F k5 k6 r.hh (Ev.fn F g1 at_em r (con_em x y sx) (EvL.cons Cx.Mono (Ev.var F k1) (EvL.cons Cx.Mono (Ev.var F k2) EvL.nil))) ?_
  exact Sx.back (Ev.fn F g2 at_rr r (con_rr _ _ dg hdg ok) (EvL.cons Cx.Mono (Ev.var F k5) (EvL.cons Cx.Mono (Ev.var F k6) (EvL.cons Cx.Mono (Ev.var F k3) (EvL.cons Cx.Mono (Ev.var F k4) EvL.nil)))))
end
theorem con_rm (x y : Int × Int) (dg : Int) (hdg : 0 ≤ dg) (sx : Sm x) (ok : Ok (em x y) dg) : Con w 124 4 [.pair x, .pair y, .int dg, .int 90] (Is (.pair (rm x y dg))) := by
  refine Con.of (names := ["x", "y", "digits", "top"]) (body := bodyAt 15) (o := oAt w 124) (fd := fAt w 124) (by rfl) (by rfl) (by rfl) (by rfl) rfl ?_ (by rfl) (by rfl) (by rfl) (by rfl) (by rfl) ?_
  · intro vs hv
    match vs, hv with
    | [a, b, c, d], _ => rfl
  · intro A h₀ L r
    exact body_real_mul ⟨by rfl, by rfl, by rfl, by rfl⟩ (by rfl) (by rfl) (by rfl) (by rfl) (by rfl) (by rfl) (by rfl) (by rfl) x y dg hdg sx ok r
theorem at_rm : At w "real_mul" 124 := ⟨by rfl, ⟨oAt w 124, fAt w 124, by rfl, by rfl⟩, by decide⟩

section
variable {A : Around} {h₀ : Heap} {L : Addr} {env : Env}
theorem body_real_div (F : Fn env L) (k1 : env.kindOf "x" = some .local) (k2 : env.kindOf "y" = some .local) (k3 : env.kindOf "digits" = some .local) (k4 : env.kindOf "top" = some .local) (k5 : env.kindOf "m" = some .local) (k6 : env.kindOf "e" = some .local)
    (g1 : env.kindOf "quotient" = some .globalImplicit) (g2 : env.kindOf "round_real" = some .globalImplicit)
    (x y : Int × Int) (dg : Int) (hdg : 0 ≤ dg) (hy : y.1 ≠ 0) (sx : Sm x) (sy : Sm y) (hs : dg + 2 + cd y.1 ≤ 1000) (ok : Ok (qt x.1 y.1 (x.2 - y.2) dg) dg) (r : Rm A 3) :
    Sx w A h₀ L [("top", .int 90), ("digits", .int dg), ("y", .pair y), ("x", .pair x)] (execs (bodyAt 16) env) (.ret (Is (.pair (rv x y dg)))) := by
  refine Sx.guard (EvB.cmp Cx.Mono (Ev.item0 Cx.Mono (Ev.var F k2)) Ev.int (fun s a b Q E => cp_eq)) (fun h => absurd (by simpa using h) hy) (fun _ => ?_)
  refine Sx.two F k5 k6 r.hh (Ev.fn F g1 at_qt r (con_qt x.1 y.1 (x.2 - y.2) dg hy (sm_ab sx) (sm_ab_log sy) hs) (EvL.cons Cx.Mono (Ev.item0 Cx.Mono (Ev.var F k1)) (EvL.cons Cx.Mono (Ev.item0 Cx.Mono (Ev.var F k2)) (EvL.cons Cx.Mono (Ev.two Cx.Mono (Ev.item1 Cx.Mono (Ev.var F k1)) (Ev.item1 Cx.Mono (Ev.var F k2)) (fun s a b Q E => op_sub)) (EvL.cons Cx.Mono (Ev.var F k3) EvL.nil))))) ?_
  exact Sx.back (Ev.fn F g2 at_rr r (con_rr _ _ dg hdg ok) (EvL.cons Cx.Mono (Ev.var F k5) (EvL.cons Cx.Mono (Ev.var F k6) (EvL.cons Cx.Mono (Ev.var F k3) (EvL.cons Cx.Mono (Ev.var F k4) EvL.nil)))))
end
theorem con_rv (x y : Int × Int) (dg : Int) (hdg : 0 ≤ dg) (hy : y.1 ≠ 0) (sx : Sm x) (sy : Sm y) (hs : dg + 2 + cd y.1 ≤ 1000) (ok : Ok (qt x.1 y.1 (x.2 - y.2) dg) dg) : Con w 131 4 [.pair x, .pair y, .int dg, .int 90] (Is (.pair (rv x y dg))) := by
  refine Con.of (names := ["x", "y", "digits", "top"]) (body := bodyAt 16) (o := oAt w 131) (fd := fAt w 131) (by rfl) (by rfl) (by rfl) (by rfl) rfl ?_ (by rfl) (by rfl) (by rfl) (by rfl) (by rfl) ?_
  · intro vs hv
    match vs, hv with
    | [a, b, c, d], _ => rfl
  · intro A h₀ L r
    exact body_real_div ⟨by rfl, by rfl, by rfl, by rfl⟩ (by rfl) (by rfl) (by rfl) (by rfl) (by rfl) (by rfl) (by rfl) (by rfl) x y dg hdg hy sx sy hs ok r
theorem at_rv : At w "real_div" 131 := ⟨by rfl, ⟨oAt w 131, fAt w 131, by rfl, by rfl⟩, by decide⟩

section
variable {A : Around} {h₀ : Heap} {L : Addr} {env : Env}
theorem body_real_compare (F : Fn env L) (k1 : env.kindOf "x" = some .local) (k2 : env.kindOf "y" = some .local) (k3 : env.kindOf "m" = some .local)
    (g1 : env.kindOf "exact_add" = some .globalImplicit) (g2 : env.kindOf "real_neg" = some .globalImplicit)
    (x y : Int × Int) (sx : Sm x) (sy : Sm y) (r : Rm A 1) :
    Sx w A h₀ L [("y", .pair y), ("x", .pair x)] (execs (bodyAt 17) env) (.ret (Is (.int (cp x y)))) := by
  refine Sx.let F k3 (Ev.item0 Cx.Mono (Ev.fn F g1 at_ea r (con_ea x (rn y) sx sy.neg) (EvL.cons Cx.Mono (Ev.var F k1) (EvL.cons Cx.Mono (Ev.fn F g2 at_rn r (con_rn y) (EvL.cons Cx.Mono (Ev.var F k2) EvL.nil)) EvL.nil)))) ?_
  unfold cp
  generalize (ea x (rn y)).1 = m
  unfold sg
  refine Sx.guard (EvB.cmp Cx.Mono (Ev.var F k3) Ev.int (fun s a b Q E => cp_eq)) (fun h => ?_) (fun h => ?_)
  · rw [if_pos (by simpa using h)]; exact Sx.back Ev.int
  rw [if_neg (by simpa using h)]
  refine Sx.back (Ev.ite Cx.Mono (EvB.cmp Cx.Mono (Ev.var F k3) Ev.int (fun s a b Q E => cp_gt)) (fun h => ?_) (fun h => ?_))
  · rw [if_pos (by simpa using h)]; exact Ev.int
  · rw [if_neg (by simpa using h)]; exact Ev.neg Cx.Mono Ev.int
theorem body_goes_along (F : Fn env L) (k1 : env.kindOf "before" = some .local) (k2 : env.kindOf "behind" = some .local) (a b : Int) (ha : Builtin.Int.intBits a ≤ 64) :
    Sx w A h₀ L [("behind", .int b), ("before", .int a)] (execs (bodyAt 24) env) (.ret (Is (.bool (ga a b)))) :=
  Sx.back (Ev.and Cx.Mono (Ev.cmp Cx.Mono (Ev.two Cx.Mono (Ev.var F k1) (Ev.var F k2) (fun s a b Q E => op_mul (IntMulOk.of_left ha))) Ev.int (fun s a b Q E => cp_ge))
    (fun _ => Ev.one (Ev.or Cx.Mono (Ev.cmp Cx.Mono (Ev.var F k1) Ev.int (fun s a b Q E => cp_ne)) (fun _ => Ev.one (Ev.cmp Cx.Mono (Ev.var F k2) Ev.int (fun s a b Q E => cp_eq))))))
end
theorem con_cp (x y : Int × Int) (sx : Sm x) (sy : Sm y) : Con w 138 2 [.pair x, .pair y] (Is (.int (cp x y))) := by
  refine Con.of (names := ["x", "y"]) (body := bodyAt 17) (o := oAt w 138) (fd := fAt w 138) (by rfl) (by rfl) (by rfl) (by rfl) rfl ?_ (by rfl) (by rfl) (by rfl) (by rfl) (by rfl) ?_
  · intro vs hv
    match vs, hv with
    | [a, b], _ => rfl
  · intro A h₀ L r
    exact body_real_compare ⟨by rfl, by rfl, by rfl, by rfl⟩ (by rfl) (by rfl) (by rfl) (by rfl) (by rfl) x y sx sy r
theorem at_cp : At w "real_compare" 138 := ⟨by rfl, ⟨oAt w 138, fAt w 138, by rfl, by rfl⟩, by decide⟩
theorem con_ga (a b : Int) (ha : Builtin.Int.intBits a ≤ 64) : Con w 161 1 [.int a, .int b] (Is (.bool (ga a b))) := by
  refine Con.of (names := ["before", "behind"]) (body := bodyAt 24) (o := oAt w 161) (fd := fAt w 161) (by rfl) (by rfl) (by rfl) (by rfl) rfl ?_ (by rfl) (by rfl) (by rfl) (by rfl) (by rfl) ?_
  · intro vs hv
    match vs, hv with
    | [a, b], _ => rfl
  · intro A h₀ L r
    exact body_goes_along ⟨by rfl, by rfl, by rfl, by rfl⟩ (by rfl) (by rfl) a b ha
theorem at_ga : At w "_law_goes_along" 161 := ⟨by rfl, ⟨oAt w 161, fAt w 161, by rfl, by rfl⟩, by decide⟩
end
end Mine

end

/-! L0 -/
section
open PySem PySem.W PySem.Calls PyProof.Rows
set_option Elab.async false
set_option linter.unusedVariables false
set_option linter.unusedSectionVars false
namespace Mine
theorem swapped2 {env : Env} {x y : Str} {px py tpos vpos p₁ p₂ : Pos} {k k' : Nat} {f₁ f₂ : Expr} {a₁ a₂ : List Expr} {w₁ w₂ : List Keyword} (hb : env.scope.kind = .function) (kx : env.kindOf x = some .local) (ky : env.kindOf y = some .local)
    (hl : (py.line == px.line) = true) (hxy : [x, y].eraseDups.length = 2) :
    swappedStores [.Tuple [.Name x px, .Name y py] k tpos] (.Tuple [.Call f₁ a₁ w₁ p₁, .Call f₂ a₂ w₂ p₂] k' vpos) env = pure (some [x, y]) := by
  have hb' : env.blockKind = .function := by unfold Env.blockKind; rw [hb]; rfl
  have hl' : py.line = px.line := by simpa using hl
  have c1 : constantsAlone 8 (.Call f₁ a₁ w₁ p₁) = false := rfl
  have c2 : foldedForSure 8 (.Call f₁ a₁ w₁ p₁) = false := rfl
  simp [swappedStores, hb', kx, ky, hl', hxy, c1, c2, Expr.pos]
end Mine

end

/-! L1 -/
section
open PySem PySem.W PySem.Calls PyProof.Rows
set_option Elab.async false
set_option linter.unusedVariables false
set_option linter.unusedSectionVars false
namespace Mine
theorem sg_small (m : Int) : -1 ≤ sg m ∧ sg m ≤ 1 := by unfold sg; split <;> (try split) <;> omega
theorem cp_bits (x y : Int × Int) : Builtin.Int.intBits (cp x y) ≤ 64 := by
  have := sg_small (ea x (rn y)).1
  exact intBits_le_64 (by unfold cp; omega) (by unfold cp; omega)

/-- what _law_rounds_right needs -/
structure RoundsOk (a b : Int × Int) (dg : Int) : Prop where
  d0 : 0 ≤ dg
  sa : Sm a
  sb : Sm b
  oa : Ok a dg
  ob : Ok b dg
  sX : Sm (rr a.1 a.2 dg)
  sY : Sm (rr b.1 b.2 dg)
  oX : Ok (rr a.1 a.2 dg) dg
  on : Ok (-a.1, a.2) dg
  h1 : ga (cp a b) (cp (rr a.1 a.2 dg) (rr b.1 b.2 dg)) = true
  h2 : (rr a.1 a.2 dg == rr b.1 b.2 dg) = (cp (rr a.1 a.2 dg) (rr b.1 b.2 dg) == 0)
  h3 : rr (rr a.1 a.2 dg).1 (rr a.1 a.2 dg).2 dg = rr a.1 a.2 dg
  h4 : cp (rr b.1 b.2 dg) (rr a.1 a.2 dg) = -cp (rr a.1 a.2 dg) (rr b.1 b.2 dg)
  h5 : rr (-a.1) a.2 dg = rn (rr a.1 a.2 dg)
/-- what _law_sums_right needs -/
structure SumsOk (x y z : Int × Int) (dg : Int) : Prop where
  d0 : 0 ≤ dg
  sx : Sm x
  sy : Sm y
  sz : Sm z
  sn : Sm (0, 0)
  oxy : Ok (ea x y) dg
  oxy' : Ok (ea x (rn y)) dg
  oyx : Ok (ea y x) dg
  ox0 : Ok (ea x (0, 0)) dg
  oyx' : Ok (ea y (rn x)) dg
  oxz : Ok (ea x z) dg
  oyz : Ok (ea y z) dg
  sb : Sm (ra x y dg)
  sr : Sm (rs x y dg)
  sxz : Sm (ra x z dg)
  syz : Sm (ra y z dg)
  h1 : ra x y dg = ra y x dg
  h2 : ra x (0, 0) dg = x
  h3 : cp (rs x y dg) (0, 0) = cp x y
  h4 : rs y x dg = rn (rs x y dg)
  h5 : ga (cp x y) (cp (ra x z dg) (ra y z dg)) = true
  h6 : 0 ≤ cp (ra x y dg) x * cp y (0, 0)

section
variable {w : World}
theorem top_e : nsIn (KF w) mainGlobals "_law_top" = some (some (.int 90 376)) := by rfl
theorem none_e : nsIn (KF w) mainGlobals "_law_none" = some (some (.ref 140)) := by rfl
theorem none_o : (KF w).lookup 140 = some (pairObj 0 381 0 382 0) := by rfl
theorem one_e : nsIn (KF w) mainGlobals "_law_one" = some (some (.ref 139)) := by rfl
theorem one_o : (KF w).lookup 139 = some (pairObj 1 378 0 379 0) := by rfl
end
end Mine

end

/-! L2 -/
section
open PySem PySem.W PySem.Calls PyProof.Rows
set_option Elab.async false
set_option linter.unusedVariables false
set_option linter.unusedSectionVars false
namespace Mine
section
variable {w : World}
section
variable {A : Around} {h₀ : Heap} {L : Addr} {env : Env} {Γ : Vars} {C : Heap → Prop}
theorem ev_top (F : Fn env L) (g : env.kindOf "_law_top" = some .globalImplicit) {pos : Pos} : Ev w A (Cx w h₀ L Γ) (eval (.Name "_law_top" pos) env) (Is (.int 90)) := Ev.globInt top_e F.hk g F.hg (by decide)
theorem ev_none (F : Fn env L) (g : env.kindOf "_law_none" = some .globalImplicit) {pos : Pos} : Ev w A (Cx w h₀ L Γ) (eval (.Name "_law_none" pos) env) (Is (.pair (0, 0))) := Ev.globPair none_e none_o F.hk g F.hg (by decide)
theorem ev_one (F : Fn env L) (g : env.kindOf "_law_one" = some .globalImplicit) {pos : Pos} : Ev w A (Cx w h₀ L Γ) (eval (.Name "_law_one" pos) env) (Is (.pair (1, 0))) := Ev.globPair one_e one_o F.hk g F.hg (by decide)
theorem args2 {pos : Pos} {e₁ e₂ : Expr} {d₁ d₂ : D} (M : Mono C) (h₁ : Ev w A C (eval e₁ env) (Is d₁)) (h₂ : Ev w A C (eval e₂ env) (Is d₂))
    (a₁ : starEach [e₁, e₂] env = (false, eval e₁ env) :: starEach [e₂] env := by rfl) (a₂ : starEach [e₂] env = (false, eval e₂ env) :: starEach [] env := by rfl) :
    EvL w A C (spliced (backTo pos (starEach [e₁, e₂] env))) [d₁, d₂] := EvL.cons M h₁ (EvL.cons M h₂ EvL.nil a₂) a₁
theorem args4 {pos : Pos} {e₁ e₂ e₃ e₄ : Expr} {d₁ d₂ d₃ d₄ : D} (M : Mono C) (h₁ : Ev w A C (eval e₁ env) (Is d₁)) (h₂ : Ev w A C (eval e₂ env) (Is d₂)) (h₃ : Ev w A C (eval e₃ env) (Is d₃)) (h₄ : Ev w A C (eval e₄ env) (Is d₄))
    (a₁ : starEach [e₁, e₂, e₃, e₄] env = (false, eval e₁ env) :: starEach [e₂, e₃, e₄] env := by rfl) (a₂ : starEach [e₂, e₃, e₄] env = (false, eval e₂ env) :: starEach [e₃, e₄] env := by rfl)
    (a₃ : starEach [e₃, e₄] env = (false, eval e₃ env) :: starEach [e₄] env := by rfl) (a₄ : starEach [e₄] env = (false, eval e₄ env) :: starEach [] env := by rfl) :
    EvL w A C (spliced (backTo pos (starEach [e₁, e₂, e₃, e₄] env))) [d₁, d₂, d₃, d₄] := EvL.cons M h₁ (EvL.cons M h₂ (EvL.cons M h₃ (EvL.cons M h₄ EvL.nil a₄) a₃) a₂) a₁

theorem body_rounds_right (F : Fn env L) (k1 : env.kindOf "a" = some .local) (k2 : env.kindOf "b" = some .local) (k3 : env.kindOf "digits" = some .local) (k4 : env.kindOf "x" = some .local) (k5 : env.kindOf "y" = some .local)
    (g1 : env.kindOf "round_real" = some .globalImplicit) (g2 : env.kindOf "_law_top" = some .globalImplicit) (g3 : env.kindOf "_law_goes_along" = some .globalImplicit) (g4 : env.kindOf "real_compare" = some .globalImplicit) (g5 : env.kindOf "real_neg" = some .globalImplicit)
    (a b : Int × Int) (dg : Int) (H : RoundsOk a b dg) (r : Rm A 3) :
    Sx w A h₀ L [("digits", .int dg), ("b", .pair b), ("a", .pair a)] (execs (bodyAt 25) env) (.ret (Is (.bool true))) := by
  obtain ⟨d0, sa, sb, oa, ob, sX, sY, oX, on, h1, h2, h3, h4, h5⟩ := H
  have hu : A.units + 64 < cLine := by have := r.hu; omega
  refine Sx.cons (Sx.both r.hh (Ev.fn F g1 at_rr r (con_rr a.1 a.2 dg d0 oa) (args4 Cx.Mono (Ev.item0 Cx.Mono (Ev.var F k1)) (Ev.item1 Cx.Mono (Ev.var F k1)) (Ev.var F k3) (ev_top F g2)))
    (Ev.fn F g1 at_rr r (con_rr b.1 b.2 dg d0 ob) (args4 Cx.Mono (Ev.item0 Cx.Mono (Ev.var F k2)) (Ev.item1 Cx.Mono (Ev.var F k2)) (Ev.var F k3) (ev_top F g2))) k4 k5 F.hL F.hk (by rfl) (swapped2 F.hk k4 k5 (by rfl) (by decide +kernel))) ?_
  generalize hX : rr a.1 a.2 dg = X at *
  generalize hY : rr b.1 b.2 dg = Y at *
  have ex : ∀ {pos : Pos}, Ev w A (Cx w h₀ L [("digits", .int dg), ("b", .pair b), ("a", .pair a), ("y", .pair Y), ("x", .pair X)]) (eval (.Name "x" pos) env) (Is (.pair X)) := Ev.var F k4
  have ey : ∀ {pos : Pos}, Ev w A (Cx w h₀ L [("digits", .int dg), ("b", .pair b), ("a", .pair a), ("y", .pair Y), ("x", .pair X)]) (eval (.Name "y" pos) env) (Is (.pair Y)) := Ev.var F k5
  refine Sx.guard (EvB.or Cx.Mono (EvB.not (EvB.plain (Ev.fn F g3 at_ga r (con_ga _ _ (cp_bits a b)) (args2 Cx.Mono (Ev.fn F g4 at_cp r (con_cp a b sa sb) (args2 Cx.Mono (Ev.var F k1) (Ev.var F k2))) (Ev.fn F g4 at_cp r (con_cp X Y sX sY) (args2 Cx.Mono ex ey))))))
    (fun _ => EvB.or Cx.Mono (EvB.cmp Cx.Mono (Ev.cmp Cx.Mono ex ey (fun s a b Q E => cp_eqP hu)) (Ev.cmp Cx.Mono (Ev.fn F g4 at_cp r (con_cp X Y sX sY) (args2 Cx.Mono ex ey)) Ev.int (fun s a b Q E => cp_eq)) (fun s a b Q E => cp_neB)) (fun _ => EvB.orNil)))
    (fun h => absurd h (by rw [h1, h2]; simp)) (fun _ => ?_)
  refine Sx.guard (EvB.or Cx.Mono (EvB.cmp Cx.Mono (Ev.fn F g1 at_rr r (con_rr X.1 X.2 dg d0 oX) (args4 Cx.Mono (Ev.item0 Cx.Mono ex) (Ev.item1 Cx.Mono ex) (Ev.var F k3) (ev_top F g2))) ex (fun s a b Q E => cp_neP hu))
    (fun _ => EvB.or Cx.Mono (EvB.cmp Cx.Mono (Ev.fn F g4 at_cp r (con_cp Y X sY sX) (args2 Cx.Mono ey ex)) (Ev.neg Cx.Mono (Ev.fn F g4 at_cp r (con_cp X Y sX sY) (args2 Cx.Mono ex ey))) (fun s a b Q E => cp_ne)) (fun _ => EvB.orNil)))
    (fun h => absurd h (by rw [h3, h4]; simp)) (fun _ => ?_)
  refine Sx.back (Ev.eq (Ev.cmp Cx.Mono (Ev.fn F g1 at_rr r (con_rr (-a.1) a.2 dg d0 on) (args4 Cx.Mono (Ev.neg Cx.Mono (Ev.item0 Cx.Mono (Ev.var F k1))) (Ev.item1 Cx.Mono (Ev.var F k1)) (Ev.var F k3) (ev_top F g2)))
    (Ev.fn F g5 at_rn r (con_rn X) (EvL.cons Cx.Mono ex EvL.nil)) (fun s a b Q E => cp_eqP hu)) ?_)
  rw [h5]
  simp

theorem body_sums_right (F : Fn env L) (k1 : env.kindOf "x" = some .local) (k2 : env.kindOf "y" = some .local) (k3 : env.kindOf "z" = some .local) (k4 : env.kindOf "digits" = some .local) (k5 : env.kindOf "both" = some .local) (k6 : env.kindOf "rest" = some .local)
    (g1 : env.kindOf "real_add" = some .globalImplicit) (g2 : env.kindOf "_law_top" = some .globalImplicit) (g3 : env.kindOf "real_sub" = some .globalImplicit) (g4 : env.kindOf "_law_none" = some .globalImplicit) (g5 : env.kindOf "real_compare" = some .globalImplicit)
    (g6 : env.kindOf "real_neg" = some .globalImplicit) (g7 : env.kindOf "_law_goes_along" = some .globalImplicit)
    (x y z : Int × Int) (dg : Int) (H : SumsOk x y z dg) (r : Rm A 4) :
    Sx w A h₀ L [("digits", .int dg), ("z", .pair z), ("y", .pair y), ("x", .pair x)] (execs (bodyAt 26) env) (.ret (Is (.bool true))) := by
  obtain ⟨d0, sx, sy, sz, sn, oxy, oxy', oyx, ox0, oyx', oxz, oyz, sb, sr, sxz, syz, h1, h2, h3, h4, h5, h6⟩ := H
  have hu : A.units + 64 < cLine := by have := r.hu; omega
  refine Sx.cons (Sx.both r.hh (Ev.fn F g1 at_ra r (con_ra x y dg d0 sx sy oxy) (args4 Cx.Mono (Ev.var F k1) (Ev.var F k2) (Ev.var F k4) (ev_top F g2)))
    (Ev.fn F g3 at_rs r (con_rs x y dg d0 sx sy oxy') (args4 Cx.Mono (Ev.var F k1) (Ev.var F k2) (Ev.var F k4) (ev_top F g2))) k5 k6 F.hL F.hk (by rfl) (swapped2 F.hk k5 k6 (by rfl) (by decide +kernel))) ?_
  have eB : ∀ {pos : Pos}, Ev w A (Cx w h₀ L [("digits", .int dg), ("z", .pair z), ("y", .pair y), ("x", .pair x), ("rest", .pair (rs x y dg)), ("both", .pair (ra x y dg))]) (eval (.Name "both" pos) env) (Is (.pair (ra x y dg))) := Ev.var F k5
  have eR : ∀ {pos : Pos}, Ev w A (Cx w h₀ L [("digits", .int dg), ("z", .pair z), ("y", .pair y), ("x", .pair x), ("rest", .pair (rs x y dg)), ("both", .pair (ra x y dg))]) (eval (.Name "rest" pos) env) (Is (.pair (rs x y dg))) := Ev.var F k6
  have ex : ∀ {pos : Pos}, Ev w A (Cx w h₀ L [("digits", .int dg), ("z", .pair z), ("y", .pair y), ("x", .pair x), ("rest", .pair (rs x y dg)), ("both", .pair (ra x y dg))]) (eval (.Name "x" pos) env) (Is (.pair x)) := Ev.var F k1
  have ey : ∀ {pos : Pos}, Ev w A (Cx w h₀ L [("digits", .int dg), ("z", .pair z), ("y", .pair y), ("x", .pair x), ("rest", .pair (rs x y dg)), ("both", .pair (ra x y dg))]) (eval (.Name "y" pos) env) (Is (.pair y)) := Ev.var F k2
  have ez : ∀ {pos : Pos}, Ev w A (Cx w h₀ L [("digits", .int dg), ("z", .pair z), ("y", .pair y), ("x", .pair x), ("rest", .pair (rs x y dg)), ("both", .pair (ra x y dg))]) (eval (.Name "z" pos) env) (Is (.pair z)) := Ev.var F k3
  have ed : ∀ {pos : Pos}, Ev w A (Cx w h₀ L [("digits", .int dg), ("z", .pair z), ("y", .pair y), ("x", .pair x), ("rest", .pair (rs x y dg)), ("both", .pair (ra x y dg))]) (eval (.Name "digits" pos) env) (Is (.int dg)) := Ev.var F k4
  refine Sx.guard (EvB.or Cx.Mono (EvB.cmp Cx.Mono eB (Ev.fn F g1 at_ra r (con_ra y x dg d0 sy sx oyx) (args4 Cx.Mono ey ex ed (ev_top F g2))) (fun s a b Q E => cp_neP hu))
    (fun _ => EvB.or Cx.Mono (EvB.cmp Cx.Mono (Ev.fn F g1 at_ra r (con_ra x (0, 0) dg d0 sx sn ox0) (args4 Cx.Mono ex (ev_none F g4) ed (ev_top F g2))) ex (fun s a b Q E => cp_neP hu)) (fun _ => EvB.orNil)))
    (fun h => absurd h (by rw [← h1, h2]; simp)) (fun _ => ?_)
  refine Sx.guard (EvB.or Cx.Mono (EvB.cmp Cx.Mono (Ev.fn F g5 at_cp r (con_cp (rs x y dg) (0, 0) sr sn) (args2 Cx.Mono eR (ev_none F g4))) (Ev.fn F g5 at_cp r (con_cp x y sx sy) (args2 Cx.Mono ex ey)) (fun s a b Q E => cp_ne))
    (fun _ => EvB.or Cx.Mono (EvB.cmp Cx.Mono (Ev.fn F g3 at_rs r (con_rs y x dg d0 sy sx oyx') (args4 Cx.Mono ey ex ed (ev_top F g2))) (Ev.fn F g6 at_rn r (con_rn (rs x y dg)) (EvL.cons Cx.Mono eR EvL.nil)) (fun s a b Q E => cp_neP hu)) (fun _ => EvB.orNil)))
    (fun h => absurd h (by rw [h3, h4]; simp)) (fun _ => ?_)
  refine Sx.guard (EvB.not (EvB.plain (Ev.fn F g7 at_ga r (con_ga _ _ (cp_bits x y)) (args2 Cx.Mono (Ev.fn F g5 at_cp r (con_cp x y sx sy) (args2 Cx.Mono ex ey))
    (Ev.fn F g5 at_cp r (con_cp (ra x z dg) (ra y z dg) sxz syz) (args2 Cx.Mono (Ev.fn F g1 at_ra r (con_ra x z dg d0 sx sz oxz) (args4 Cx.Mono ex ez ed (ev_top F g2))) (Ev.fn F g1 at_ra r (con_ra y z dg d0 sy sz oyz) (args4 Cx.Mono ey ez ed (ev_top F g2)))))))))
    (fun h => absurd h (by rw [h5]; simp)) (fun _ => ?_)
  refine Sx.back (Ev.eq (Ev.cmp Cx.Mono (Ev.two Cx.Mono (Ev.fn F g5 at_cp r (con_cp (ra x y dg) x sb sx) (args2 Cx.Mono eB ex)) (Ev.fn F g5 at_cp r (con_cp y (0, 0) sy sn) (args2 Cx.Mono ey (ev_none F g4))) (fun s a b Q E => op_mul (IntMulOk.of_left (cp_bits _ _)))) Ev.int (fun s a b Q E => cp_ge)) ?_)
  rw [decide_eq_true h6]
end
end
end Mine

end

/-! E1 -/
section
open PySem PySem.W PySem.Calls PyProof.Rows Builtin Builtin.ObjectAttr
set_option Elab.async false
set_option linter.unusedVariables false
set_option linter.unusedSectionVars false
namespace Mine
/-- an exception of the text's own class, as it is made -/
def excObj (d : Option Addr) (t : Addr) : Obj := { cls := .ref 44, dict := d, data := .fields #[.ref t, .none, .none, .none, .bool false, .none] }
abbrev bm44 : List Value := [.ref 31, .type "Exception", .type "BaseException", .type "object"]
abbrev cls44 : Obj := excClassObj "RunFault" "RunFault" 44 43 [.ref 31] bm44 true [] [] false none none (some (.ref 35)) none (some (.str "RunFault" 218)) (some (.str "RunFault" 226)) (some (.bool true)) "Exception.__new__"
section
variable {w : World} {A : Around} {E : Value → Shared → Prop}
theorem look44 : (KF w).lookup 44 = some cls44 := by rfl

theorem isa_exc {h : Heap} {e t : Addr} {d : Option Addr} (g : Gl w h) (he : h.get? e = some (excObj d t)) {b : Value} (hb : mroIn (KF w) 44 b = some true) : Looks (model PR w) h (isInstance (.ref e) b) true :=
  ((Looks.ld he).andThen .now).andThen (looks_mroIn g.1 hb)

theorem check_init {h : Heap} {g : Array GenState} {dr : Drawn} {tk : Nat} {os : OsState} {e t : Addr} {d : Option Addr} {rest : List Value} {Q : Unit → Shared → Prop}
    (hC : h.get? 44 = some cls44) (he : h.get? e = some (excObj d t)) (q : Q () ⟨h, g, dr, tk, os⟩) : wpAny (model PR w) A (checkBuiltinCall "Exception.__init__" ⟨.ref e :: rest, []⟩) Q E ⟨h, g, dr, tk, os⟩ := by
  have F := PySem.F.excBase_Exception
  have hcB : (Value.ref 44 :: bm44).contains (.type "Exception") = true := by decide +kernel
  have hshort := F.noStar
  simp only [checkBuiltinCall, F.initKind, F.initSplit, F.initRow]
  unfold excObj at he
  repeat (first | with_reducible refine wpAny_loadPart_at he ?_ | with_reducible refine wpAny_loadPart_at hC ?_ | (with_reducible refine wpAny_isSubtype_exc hC ?_; rw [hcB]) | wp_step)
  refine wpAny_onRaise ?_
  rw [show ∀ (a b : String) (n : Nat), Bind.check ⟨.positional, "*", "Exception", .self, [⟨"args", .varPos, false⟩]⟩ a b n (List.map (fun x => x.fst) ({ pos := Value.ref e :: rest } : Args).kw) = pure () from
    fun a b n => check_star_args _ _ _ _ _ _]
  exact wpAny_pure q

theorem base_init {s : Shared} {e t : Addr} {d : Option Addr} {x : Value} {Q : Value → Shared → Prop} (hC : s.heap.get? 44 = some cls44) (he : s.heap.get? e = some (excObj d t))
    (q : ∀ h' t', (∀ b o, b ≠ e → s.heap.get? b = some o → h'.get? b = some o) → h'.get? e = some (excObj d t') → s.heap.get? t' = none → Q .none { s with heap := h' }) :
    wpAny (model PR w) A (call (.builtin "Exception.__init__") [.ref e, x]) Q E s := by
  have F := PySem.F.excBase_Exception
  obtain ⟨hh, gs, dr, tk, os⟩ := s
  refine wpAny_call (codeAny_call_builtin F.init.plain F.initEntry (check_init hC he ?_))
  wp_walk
  have he₁ := Heap.get?_push_of_some (h := hh) { cls := .type "tuple", data := .seq #[x] } he
  refine q _ hh.objs.size (fun b o hb ho => ?_) ?_ (Heap.get?_none_of_le (Nat.le_refl _))
  · rw [Heap.get?_update_other _ _ (Ne.symm hb)]
    exact Heap.get?_push_of_some _ ho
  · exact Heap.get?_update_self _ he₁ rfl

theorem refuse44 (self : Value) : refuseLoop self "__setattr__" (Value.ref 44 :: bm44) = pure () := by
  rw [refuseLoop_ref, refuseLoop_ref]
  kernel_rfl

theorem set_text {s : Shared} {e t : Addr} {v : Value} {Q : Unit → Shared → Prop} (g : Gl w s.heap) (he : s.heap.get? e = some (excObj none t))
    (q : ∀ h' tk' d, (∀ b o, b ≠ e → s.heap.get? b = some o → h'.get? b = some o) → h'.get? e = some (excObj (some d) t) → Q () { s with heap := h', toks := tk' }) :
    wpAny (model PR w) A (setAttr (.ref e) "text" v) Q E s := by
  obtain ⟨hh, gs, dr, tk, os⟩ := s
  have I : InstAt hh e (excObj none t) 44 none := ⟨he, rfl, rfl, trivial⟩
  refine set_plain g.1 I (by rfl) ?_
  have SF := PySem.F.store_object
  have sub : Looks (model PR w) hh (isInstance (.ref e) (.type "object")) true := isa_exc g he (by rfl)
  have ty : Looks (model PR w) hh (typeOf (.ref e)) (.ref 44) := I.type
  have mro : Looks (model PR w) hh (mroOf (.ref 44)) (Value.ref 44 :: bm44) := Looks.andThen (looks_clsIn g.1 (show clsIn (KF w) 44 = some _ by rfl)) .now
  have find : Looks (model PR w) hh (typeLookup (.ref 44) "text") none := looks_findIn g.1 (by rfl)
  refine codeAny_call_builtin SF.slot.plain SF.entry (@check_slot (model PR w) _ _ _ "object.__setattr__" "object" "__setattr__" (.ref e) [.str "text" tk, v] [] _ SF.kind SF.split sub (SF.args _ _ _) ?_)
  rw [osa_eq, refuse_eq]
  refine wpAny_bind (wpAny_bind (ty.at (wpAny_bind (mro.at ?_))))
  rw [refuse44]
  refine wpAny_pure (wpAny_bind (ty.at (wpAny_bind (find.at (wpAny_bind (wpAny_pure ?_))))))
  have hcls : Looks (model PR w) hh (classData 44) _ := looks_clsIn g.1 (show clsIn (KF w) 44 = some _ by rfl)
  have ne : hh.objs.size ≠ e := Nat.ne_of_gt (Heap.lt_size he)
  have he₁ := Heap.get?_push_of_some (h := hh) emptyDict he
  have D : ((hh.push emptyDict).update e fun o => { o with dict := some hh.objs.size }).get? hh.objs.size = some emptyDict := by
    rw [Heap.get?_update_other _ _ (Ne.symm ne)]
    exact Heap.get?_push_size _ rfl
  refine wpAny_bind (wpAny_pure (wpAny_bind (wpAny_bind (wpAny_loadPart he (wpAny_bind (hcls.at ?_))))))
  show wpAny _ _ (alloc emptyDict >>= fun d => update e (fun o => { o with dict := some d }) >>= fun _ => pure (some d)) _ _ _
  refine wpAny_bind (wpAny_alloc (wpAny_bind (wpAny_update he₁ (wpAny_pure ?_))))
  refine wpAny_bind (wpAny_pure (wpAny_bind ?_))
  unfold nsSet
  refine wpAny_bind (wpAny_bind (wpAny_askSetting (wpAny_pure (wpAny_bind (wpAny_mkText (wpAny_bind (wpAny_loadPart D ?_)))))))
  have hm : aRefKeyMayBeTheName (Str.ofString "text") #[] = false := by rw [aRefKeyMayBeTheName_at]; simp
  dsimp only [emptyDict]
  rw [hm]
  refine wpAny_updatePart D ?_
  have D' := Heap.get?_update_self (Obj.putName (Str.ofString "text") (PyData.keyHash w.params (Str.ofString "text")) (.str (Str.ofString "text") (tk + 1)) v) D (by rfl)
  refine wpAny_bind (wpAny_lookBehind D' (pastItsLine_dict (n := 1) ?_) ?_)
  · show 1 ≤ sizeLine + 1; rw [sizeLine_eq]; decide
  · refine wpAny_pure (q _ _ hh.objs.size (fun b o hb ho => ?_) ?_)
    · have hb' : hh.objs.size ≠ b := Nat.ne_of_gt (Heap.lt_size ho)
      show (Heap.update (Heap.update (hh.push emptyDict) e _) hh.objs.size _).get? b = some o
      rw [Heap.get?_update_other _ _ hb', Heap.get?_update_other _ _ (Ne.symm hb)]
      exact Heap.get?_push_of_some _ ho
    · show (Heap.update (Heap.update (hh.push emptyDict) e _) hh.objs.size _).get? e = some _
      rw [Heap.get?_update_other _ _ ne]
      exact Heap.get?_update_self _ he₁ rfl
end
end Mine

end

/-! E2 -/
section
open PySem PySem.W PySem.Calls PyProof.Rows Builtin Builtin.ObjectAttr
set_option Elab.async false
set_option linter.unusedVariables false
set_option linter.unusedSectionVars false
namespace Mine
noncomputable def initBody (w : World) : List Stmt := match (fAt w 28).body with
  | .stmts b => b
  | _ => []
section
variable {w : World} {A : Around} {E : Value → Shared → Prop}
theorem type_exc : typeOf (.type "Exception") = pure (.type "type") := by kernel_rfl
theorem boot_exc : bootBuiltins "Exception" = some (.type "Exception") := excClass_Exception.boot
theorem stub_exc : Manifest.isStub "Exception" = false := by decide +kernel

theorem find_init : findCls (KF w) (.type "Exception") (.type "type") "__init__" = some (.val (.builtin "Exception.__init__")) := by kernel_rfl
set_option maxRecDepth 100000 in
set_option maxHeartbeats 4000000 in
theorem init_body {env : Env} {L : Addr} (F : Fn env L) (k1 : env.kindOf "self" = some .local) (k2 : env.kindOf "text" = some .local) (k3 : env.kindOf "Exception" = some .globalImplicit)
    {s : Shared} {base : Heap} {m : Str → Option Value} {e t : Addr} {v : Value} {Q : Flow → Shared → Prop} (gb : Gl w base) (hb : HLe base s.heap) (hn : base.get? e = none) (ab : base.objs.size ≤ L)
    (ns : s.heap.Ns L m) (m1 : m "self" = some (.ref e)) (m2 : m "text" = some v) (he : s.heap.get? e = some (excObj none t))
    (q : ∀ h' tk' d t', (∀ b o, b ≠ e → s.heap.get? b = some o → h'.get? b = some o) → h'.get? e = some (excObj (some d) t') → Q .next { s with heap := h', toks := tk' }) :
    wpAny (model PR w) A (execs (initBody w) env) Q E s := by
  obtain ⟨X, mean, mg, mb, T⟩ := gb.keeps hb
  have Fr0 : Fr base L s.heap m := ⟨ns, hb, ab⟩
  subst_vars
  have hL := F.hL
  refine wpAny_execs_cons (wpAny_Expr (MethodCall_ ?_) (by unfold interactive; rw [F.hk]; rfl))
  refine Name_function_global F.hk k3 (loadGlobal_builtin (by rw [F.hg]; exact T.g) (mg_none_of X T.g (by rfl)) (by rw [F.hb]; exact T.b) ((T.builtins "Exception" (by decide)).trans boot_exc) ?_) (by decide)
  refine method_type (v := .builtin "Exception.__init__") Fr0 gb.1 type_exc stub_exc find_init (by rfl) ?_
  obtain rfl := F.hL
  dsimp only
  refine PyProof.Rows.callWith_builtin1 ?_
  refine args_cons (wpAny_Name (wpAny_loadName_local F.hk k1 ns m1 ?_))
  refine args_cons (wpAny_Name (wpAny_loadName_local F.hk k2 ns m2 ?_))
  refine args_nil ?_
  refine base_init (X _ _ look44) he fun h' t' k' he' ht' => ?_
  dsimp only
  have hb' : HLe base h' := fun b o ho => k' b o (fun x => by rw [x, hn] at ho; cases ho) (hb b o ho)
  have ne : env.locals ≠ e := by
    rintro rfl
    obtain ⟨o, es, ep, ho, hd, _⟩ := ns
    rw [he] at ho; cases ho; cases hd
  have ns' : h'.Ns env.locals m := by
    obtain ⟨o, es, ep, ho, r⟩ := ns
    exact ⟨o, es, ep, k' _ _ ne ho, r⟩
  refine wpAny_execs_cons (plainObj_wpAny_Assign_Attribute (wpAny_Name (wpAny_loadName_local F.hk k2 ns' m2 (wpAny_Name (wpAny_loadName_local F.hk k1 ns' m1 ?_)))))
  refine set_text (gb.keeps hb') he' fun h2 tk2 d k2' he2 => wpAny_execs_nil ?_
  exact q h2 tk2 d t' (fun b o hne ho => k2' b o hne (k' b o hne ho)) he2
end
end Mine

end

/-! E3 -/
section
open PySem PySem.W PySem.Calls PyProof.Rows Builtin Builtin.ObjectAttr
set_option Elab.async false
set_option linter.unusedVariables false
set_option linter.unusedSectionVars false
namespace Mine
section
variable {w : World} {A : Around} {E : Value → Shared → Prop} {h : Heap} {gs : Array GenState} {dr : Drawn} {tk : Nat} {os : OsState}
theorem check_new {rest : List Value} {Q : Unit → Shared → Prop} (hC : h.get? 44 = some cls44) (q : Q () ⟨h, gs, dr, tk, os⟩) :
    wpAny (model PR w) A (checkBuiltinCall "Exception.__new__" ⟨.ref 44 :: rest, []⟩) Q E ⟨h, gs, dr, tk, os⟩ := by
  have F := PySem.F.excBase_Exception
  have hcB : (Value.ref 44 :: bm44).contains (.type "Exception") = true := by decide +kernel
  have hstar := F.noStar
  simp only [checkBuiltinCall, F.newKind, F.newSplit, F.newRow]
  repeat (first | refine wpAny_loadPart_at hC ?_ | (refine wpAny_isSubtype_exc hC ?_; rw [hcB]) | refine wpAny_staticBase_exc hC ?_ | refine wpAny_madeBy_exc hC ?_ | simp only [bne_self_eq_false, Bool.false_eq_true, if_false] | wp_step)
  exact q

theorem new44 {R : Result → Shared → Prop} {rest : List Value} (hC : h.get? 44 = some cls44)
    (q : R (.ok (.ret (.ref (h.objs.size + 1)))) ⟨(h.push { cls := .type "tuple", data := .seq rest.toArray }).push (excObj none h.objs.size), gs, dr, tk, os⟩) (hr : rest.length ≤ sizeLine) :
    codeAny (model PR w) A (.builtin "Exception.__new__" ⟨.ref 44 :: rest, []⟩) R ⟨h, gs, dr, tk, os⟩ := by
  have F := PySem.F.excBase_Exception
  have hends := F.ends
  have hcB : (Value.ref 44 :: bm44).contains (.type "Exception") = true := by decide +kernel
  have hcA : (Value.ref 44 :: bm44).contains (.type "AttributeError") = false := by decide +kernel
  have hcN : (Value.ref 44 :: bm44).contains (.type "NameError") = false := by decide +kernel
  refine PySem.codeAny_builtinAt F.entry ?_
  unfold Builtin.«BaseException.__new__»
  refine PySem.wpAt_bind ?_
  show PySem.wpAt _ _ _ (stack >>= _) _ _ _
  refine PySem.wpAt_bind (PySem.wpAt_stack fun p below => PySem.wpAt_of_wpAny ?_)
  wp_walk
  refine PySem.wpAt_of_wpAny ?_
  rw [F.owner]
  repeat (first | with_reducible refine wpAny_madeHere_exc F.canon hC ?_ | with_reducible refine wpAny_loadPart_at hC ?_ | (with_reducible refine wpAny_isSubtype_exc hC ?_; first | rw [hcB] | rw [hcA] | rw [hcN]) | wp_step)
  show R _ _
  rw [Heap.size_push]
  exact q
end
end Mine

end

/-! E4 -/
section
open PySem PySem.W PySem.Calls PyProof.Rows Builtin Builtin.ObjectAttr
set_option Elab.async false
set_option linter.unusedVariables false
set_option linter.unusedSectionVars false
namespace Mine
section
variable {w : World} {A : Around} {E : Value → Shared → Prop}
theorem bind_init (self : Value) {h : Heap} (g : Gl w h) : Looks (model PR w) h (bindSpecial (.ref 28) self) (.ref 28, [self]) := bind_fn g.1 self (by rfl)

/-- the class's call, down to its own __init__ -/
theorem make_open {h : Heap} {gs : Array GenState} {dr : Drawn} {tk : Nat} {os : OsState} {v : Value} {Q : Value → Shared → Prop} (g : Gl w h)
    (q : codeAny (model PR w) (A.under (.builtin "type.__call__" ⟨[.ref 44, v], []⟩)) (.call (.ref 28) ⟨[.ref (h.objs.size + 1), v], []⟩)
      (fun r s' => match r with | .ok (.ret u) => u = .none ∧ Q (.ref (h.objs.size + 1)) s' | .ok _ => False | .error e => E e s')
      ⟨(h.push { cls := .type "tuple", data := .seq [v].toArray }).push (excObj none h.objs.size), gs, dr, tk, os⟩) :
    wpAny (model PR w) A (call (.ref 44) [v]) Q E ⟨h, gs, dr, tk, os⟩ := by
  have hC := g.1 _ _ (look44 (w := w))
  have F := PySem.F.excBase_Exception
  have f1 := tc_lookup
  have f2 := tc_bind (.ref 44)
  have hT : (⟨h, gs, dr, tk, os⟩ : Shared).TypeIs (.ref 44) "type" := ⟨_, hC, rfl⟩
  refine wpAny_call (codeAny_of_tree ?_)
  show wpAny _ _ (callAny (.ref 44) _) _ _ _
  repeat (any_goals (first | assumption | with_reducible refine wpAny_loadPart_at hC ?_ | wp_step))
  refine ⟨rfl, ?_⟩
  refine codeAny_call_builtin_at (Code.quiet_builtin _ (by decide +kernel)) entry_typeCall (wpAny_check_type_call_sub hC ?_)
  repeat (first | with_reducible refine wpAny_loadPart_at hC ?_ | with_reducible refine wpAny_madeBy_exc hC ?_ | wp_step)
  refine codeAny_call_builtin_code (Code.quiet_builtin _ F.quiet) (check_new hC ?_)
  refine new44 hC ?_ (by show 1 ≤ sizeLine; rw [sizeLine_eq]; decide)
  show wpAny _ _ _ _ _ _
  have l1 : HLe h ((h.push { cls := .type "tuple", data := .seq [v].toArray }).push (excObj none h.objs.size)) := (HLe.push _).trans (HLe.push _)
  have g1 := g.keeps l1
  have hC₁ := g1.1 _ _ (look44 (w := w))
  have he : ((h.push { cls := .type "tuple", data := .seq [v].toArray }).push (excObj none h.objs.size)).get? (h.objs.size + 1) = some (excObj none h.objs.size) := by
    rw [← Heap.size_push h { cls := .type "tuple", data := .seq [v].toArray }]
    exact Heap.get?_push_size _ rfl
  have ty : Looks (model PR w) ((h.push { cls := .type "tuple", data := .seq [v].toArray }).push (excObj none h.objs.size)) (typeOf (.ref (h.objs.size + 1))) (.ref 44) := (Looks.ld he).andThen .now
  have isa : Looks (model PR w) ((h.push { cls := .type "tuple", data := .seq [v].toArray }).push (excObj none h.objs.size)) (isInstance (.ref (h.objs.size + 1)) (.ref 44)) true := isa_exc g1 he (by rfl)
  have find : Looks (model PR w) ((h.push { cls := .type "tuple", data := .seq [v].toArray }).push (excObj none h.objs.size)) (typeLookup (.ref 44) "__init__") (some (.ref 28)) := looks_findIn g1.1 (by rfl)
  have bnd := bind_init (.ref (h.objs.size + 1)) g1
  refine wpAny_bind (isa.at ?_)
  dsimp only [Bool.not_true]
  rw [if_neg (by decide)]
  unfold callSpecial? specialOf
  refine wpAny_bind (wpAny_holding (wpAny_bind (wpAny_bind (ty.at (find.at ?_)))))
  dsimp only
  refine wpAny_holding (wpAny_bind (bnd.at (wpAny_bind (wpAny_call (codeAny_mono q fun r s' z => ?_)))))
  rcases r with e | (u | _ | _ | _) <;> first | exact z | exact z.elim | skip
  obtain ⟨rfl, z⟩ := z
  exact wpAny_pure (wpAny_pure z)
end
end Mine

end

/-! E5 -/
section
open PySem PySem.W PySem.Calls PyProof.Rows Builtin Builtin.ObjectAttr
set_option Elab.async false
set_option linter.unusedVariables false
set_option linter.unusedSectionVars false
namespace Mine
section
variable {w : World} {A : Around} {E : Value → Shared → Prop}
set_option maxRecDepth 100000 in
theorem init_code {s : Shared} {R : Result → Shared → Prop} {base : Heap} {e t : Addr} {v : Value} (hroom : A.depth < recursionLimit) (gb : Gl w base) (hb : HLe base s.heap) (hsz : base.objs.size ≤ s.heap.objs.size) (hn : base.get? e = none)
    (he : s.heap.get? e = some (excObj none t))
    (q : ∀ h' tk' d t', (∀ b o, b ≠ e → s.heap.get? b = some o → h'.get? b = some o) → h'.get? e = some (excObj (some d) t') → R (.ok (.ret .none)) { s with heap := h', toks := tk' }) :
    codeAny (model PR w) A (.call (.ref 28) ⟨[.ref e, v], []⟩) R s := by
  obtain ⟨X, mean, mg, mb, T⟩ := id (gb.keeps hb)
  refine codeAny_call_def (o := oAt w 28) (fd := fAt w 28) (body := initBody w) (binds := [("self", .ref e), ("text", v)]) hroom (X _ _ (by rfl)) (by rfl) T.nolimit (codeRec_of X (by rfl)) (by rfl) (BindsTo.of_eq (by rfl))
    ?_ ?_ (fun h₁ hns hk₁ => ?_) (by rfl) (by rfl) (by rfl)
  · intro x hx
    have := List.all_eq_true.mp (show ((fAt w 28).scope.names.all fun x => !decide (x.2 = .cell)) = true by rfl) x hx
    simpa using this
  · intro x hx
    have := List.all_eq_true.mp (show (([("self", Value.ref e), ("text", v)] : List (Str × Value)).all fun x => decide ((fAt w 28).scope.names.lookup x.1 = some .local)) = true by rfl) x hx
    exact of_decide_eq_true this
  · refine init_body (L := s.heap.objs.size) ⟨by rfl, by rfl, by rfl, by rfl⟩ (by rfl) (by rfl) (by rfl) gb (fun b o ho => hk₁ _ _ (hb b o ho)) hn hsz hns (by rfl) (by rfl) (hk₁ _ _ he) fun h' tk' d t' k' he' => ?_
    exact q h' tk' d t' (fun b o hne ho => k' b o hne (hk₁ _ _ ho)) he'

theorem make44 {s : Shared} {v : Value} {Q : Value → Shared → Prop} (r : Rm A 1) (g : Gl w s.heap)
    (q : ∀ h' tk' e d t', HLe s.heap h' → s.heap.get? e = none → h'.get? e = some (excObj (some d) t') → Q (.ref e) { s with heap := h', toks := tk' }) :
    wpAny (model PR w) A (call (.ref 44) [v]) Q E s := by
  obtain ⟨h, gs, dr, tk, os⟩ := s
  have l1 : HLe h ((h.push { cls := .type "tuple", data := .seq [v].toArray }).push (excObj none h.objs.size)) := (HLe.push _).trans (HLe.push _)
  have hn : h.get? (h.objs.size + 1) = none := Heap.get?_none_of_le (by omega)
  have he : ((h.push { cls := .type "tuple", data := .seq [v].toArray }).push (excObj none h.objs.size)).get? (h.objs.size + 1) = some (excObj none h.objs.size) := by
    rw [← Heap.size_push h { cls := .type "tuple", data := .seq [v].toArray }]
    exact Heap.get?_push_size _ rfl
  refine make_open g (init_code (by rw [depth_under_make]; have := r.hd; omega) g l1 (by simp only [Heap.size_push]; omega) hn he fun h' tk' d t' k' he' => ⟨rfl, ?_⟩)
  exact q h' tk' _ d t' (fun b o ho => k' b o (fun x => by rw [x, hn] at ho; cases ho) (l1 b o ho)) hn he'

theorem raise_stmt {s : Shared} {env : Env} {x : Sem Value} {Q : Flow → Shared → Prop} (hh : A.handled = none)
    (h : wpAny (model PR w) A x (fun v s₁ => ∃ e d t, v = .ref e ∧ s₁.heap.get? 44 = some cls44 ∧ s₁.heap.get? e = some (excObj (some d) t) ∧ E (.ref e) s₁) E s) :
    wpAny (model PR w) A (raiseStmt env (some x) none) Q E s := by
  have hcB : (Value.ref 44 :: bm44).contains (.type "BaseException") = true := by decide +kernel
  unfold raiseStmt
  refine wpAny_bind (wpAny_mono h (fun v s₁ h₁ => ?_) fun _ _ x => x)
  obtain ⟨e, d, t, rfl, hC, he, hE⟩ := h₁
  unfold excObj at he
  obtain ⟨hp, g, dr, tk, os⟩ := s₁
  repeat (first | with_reducible refine wpAny_loadPart_at he ?_ | with_reducible refine wpAny_loadPart_at hC ?_ | (with_reducible refine wpAny_isSubtype_exc hC ?_; rw [hcB]) | wp_step)
  exact wpAny_raiseNew_none hh hE
end
end Mine

end

/-! E6 -/
section
open PySem PySem.W PySem.Calls PyProof.Rows Builtin Builtin.ObjectAttr
set_option Elab.async false
set_option linter.unusedVariables false
set_option linter.unusedSectionVars false
namespace Mine
section
variable {w : World} {A : Around} {E : Value → Shared → Prop} {h₀ : Heap} {L : Addr} {Γ : Vars} {env : Env}
theorem raise44 (F : Fn env L) (k : env.kindOf "RunFault" = some .globalImplicit) (r : Rm A 1) {s : Shared} {np cpos p pos : Pos} {k' : Nat} {x : Str} {Q : Flow → Shared → Prop} (c : Cx w h₀ L Γ s.heap)
    (hE : ∀ h' tk' e d t', HLe s.heap h' → s.heap.get? e = none → h'.get? e = some (excObj (some d) t') → E (.ref e) { s with heap := h', toks := tk' }) :
    wpAny (model PR w) A (exec (.Raise (some (.Call (.Name "RunFault" np) [.Constant (.str x) k' p] [] cpos)) none pos) env) Q E s := by
  rw [arm_exec_Raise]
  simp only [evalOpt, Option.map]
  refine wpAny_bind (wpAny_standAt (raise_stmt r.hh ?_))
  refine wpAny_bind (wpAny_Call_ofName ?_)
  refine Ev.glob (v := .ref 44) (by rfl) F.hk k F.hg (by decide) s _ _ c fun v h' tk' l ⟨hv, g⟩ => ?_
  subst hv
  unfold callWith
  have e1 : backTo cpos (starEach [Expr.Constant (.str x) k' p] env) = [(false, eval (.Constant (.str x) k' p) env)] := rfl
  rw [e1]
  refine wpAny_bind (wpAny_holding (evalArgs_plain (spliced_cons ?_)))
  refine wpAny_mkText (Calls.spliced_nil ?_)
  refine wpAny_bind (wpAny_standAt ?_)
  refine wpAny_bind (wpAny_keeperOf_exc (g.1 _ _ (look44 (w := w))) ?_)
  refine wpAny_bind (make44 r g fun h2 tk2 e d t' l2 hn he => ?_)
  refine wpAny_bind (wpAny_holding (wpAny_point (wpAny_pure ?_)))
  refine wpAny_bind (wpAny_standAt (wpAny_pure ⟨e, d, t', rfl, (g.keeps l2).1 _ _ look44, he, ?_⟩))
  refine hE h2 tk2 e d t' (l.trans l2) ?_ he
  cases hq : s.heap.get? e with
  | none => rfl
  | some o => have := l _ _ hq; rw [hn] at this; cases this
end
end Mine

end

/-! E7 -/
section
open PySem PySem.W PySem.Calls PyProof.Rows Builtin Builtin.ObjectAttr
set_option Elab.async false
set_option linter.unusedVariables false
set_option linter.unusedSectionVars false
namespace Mine
section
variable {w : World} {A : Around} {E : Value → Shared → Prop}
theorem EvB.run {C : Heap → Prop} {t : Sem Bool} {b : Bool} (h : EvB w A C t b) {s : Shared} {Q : Bool → Shared → Prop} (c : C s.heap)
    (q : ∀ h' tk', HLe s.heap h' → Q b { s with heap := h', toks := tk' }) : wpAny (model PR w) A t Q E s := h s Q E c q
theorem Ev.run {C : Heap → Prop} {t : Sem Value} {R : Heap → Value → Prop} (h : Ev w A C t R) {s : Shared} {Q : Value → Shared → Prop} (c : C s.heap)
    (q : ∀ v h' tk', HLe s.heap h' → R h' v → Q v { s with heap := h', toks := tk' }) : wpAny (model PR w) A t Q E s := h s Q E c q
/-- real_div by nought: it raises RunFault -/
theorem div_raises {s : Shared} {vs : List Value} {base : Heap} {outer : List Env} {x y : Int × Int} {dg : Int} {Q : Value → Shared → Prop} (r : Rm A 4) (gb : Gl w base) (hb : HLe base s.heap) (hfr : A.frames = some outer)
    (hff : s.heap.FunFrames base outer) (t : Tys s.heap vs [.pair x, .pair y, .int dg, .int 90]) (hy : y.1 = 0)
    (hE : ∀ e h' tk' a0, Heap.FlyingW base outer e (.ref 44) a0 h' → s.heap.UpToSlots h' → E (.ref e) { s with heap := h', toks := tk' }) :
    wpAny (model PR w) A (call (.ref 131) vs) Q E s := by
  have g := gb.keeps hb
  obtain ⟨X, mean, mg, mb, T⟩ := id g
  refine wpAny_call (codeAny_call_def (o := oAt w 131) (fd := fAt w 131) (body := bodyAt 16) (binds := (["x", "y", "digits", "top"] : List Str).zip vs) (by have := r.hd; omega) (X _ _ (by rfl)) (by rfl) T.nolimit (codeRec_of X (by rfl)) (by rfl)
    (BindsTo.of_eq ?_) ?_ ?_ (fun h₁ hns hk₁ => ?_) (by rfl) (by rfl) (by rfl))
  · match vs, t.len with
    | [a, b, c, d], _ => rfl
  · intro z hz
    have := List.all_eq_true.mp (show ((fAt w 131).scope.names.all fun x => !decide (x.2 = .cell)) = true by rfl) z hz
    simpa using this
  · intro z hz
    have := List.all_eq_true.mp (show ((["x", "y", "digits", "top"] : List Str).all fun x => decide ((fAt w 131).scope.names.lookup x = some .local)) = true by rfl) z.1 (List.of_mem_zip (a := z.1) (b := z.2) hz).1
    exact of_decide_eq_true this
  have F : Fn (callEnv (fAt w 131) s.heap.objs.size 131) s.heap.objs.size := ⟨by rfl, by rfl, by rfl, by rfl⟩
  have k2 : (callEnv (fAt w 131) s.heap.objs.size 131).kindOf "y" = some .local := by rfl
  have kR : (callEnv (fAt w 131) s.heap.objs.size 131).kindOf "RunFault" = some .globalImplicit := by rfl
  have hf : (callEnv (fAt w 131) s.heap.objs.size 131).frame = some s.heap.objs.size := by rfl
  generalize callEnv (fAt w 131) s.heap.objs.size 131 = env at F k2 kR hf ⊢
  have hlook := lk_rev ["x", "y", "digits", "top"] vs [.pair x, .pair y, .int dg, .int 90] [] [] (t.mono hk₁) rfl (fun _ _ e => by cases e)
  have c : Cx w s.heap s.heap.objs.size ((["x", "y", "digits", "top"] : List Str).zip [D.pair x, D.pair y, D.int dg, D.int 90]).reverse h₁ := ⟨g, hk₁, Nat.le_refl _, _, hns, hlook⟩
  refine wpAny_execs_cons (wpAny_If ((EvB.cmp Cx.Mono (Ev.item0 Cx.Mono (Ev.var F k2 (d := .pair y))) Ev.int (fun s a b Q E => cp_eq)).run c fun h2 tk2 l2 => ?_))
  rw [hy]
  refine wpAny_execs_cons (raise44 F kR (r.deeper.less (by decide)) (c.mono l2) fun h3 tk3 e d t' l3 hn he => ?_)
  have l03 : HLe s.heap h3 := HLe.trans hk₁ (HLe.trans l2 l3)
  have hn0 : s.heap.get? e = none := by
    cases hq : s.heap.get? e with
    | none => rfl
    | some o => have := l2 _ _ (hk₁ _ _ hq); rw [hn] at this; cases this
  have hnb : base.get? e = none := by
    cases hq : base.get? e with
    | none => rfl
    | some o => have := hb _ _ hq; rw [hn0] at this; cases this
  have ns3 := (hns.keeps l2).keeps l3
  refine wpAny_leaving_firstW (L := s.heap.objs.size) (base := base) (outer := outer) (a0 := .ref t') (Around.frames_deeper hfr) ⟨by rw [F.hk]; decide, ?_, hff.of_keeps fun b o hb' _ => ⟨o, l03 _ _ hb', rfl⟩⟩ hf he (fun b o ho => l03 _ _ (hb b o ho)) hnb rfl rfl rfl fun h4 hL => ?_
  · obtain ⟨o, es, ep, ho, hd, _⟩ := ns3
    exact ⟨_, o, hf, Heap.StaysIn.fresh hb, ho, fun vs q => by rw [hd] at q; cases q⟩
  · obtain ⟨k1, ⟨_, _, k2⟩, k3, k4⟩ := hL
    exact hE e h4 tk3 (.ref t') ⟨k1, hnb, k2, k3⟩ ((Heap.UpToSlots.of_keeps l03).trans k4)
end
end Mine

end

/-! L3 -/
section
open PySem PySem.W PySem.Calls PyProof.Rows
set_option Elab.async false
set_option linter.unusedVariables false
set_option linter.unusedSectionVars false
namespace Mine
def mag (z : Int × Int) : Int × Int := if 0 ≤ cp z (0, 0) then z else rn z
/-- what _law_products_right needs -/
structure ProdsOk (x y z : Int × Int) (dg : Int) : Prop where
  d0 : 0 ≤ dg
  sx : Sm x
  sy : Sm y
  sz : Sm z
  sn : Sm (0, 0)
  s1 : Sm (1, 0)
  oxy : Ok (em x y) dg
  oyx : Ok (em y x) dg
  ox1 : Ok (em x (1, 0)) dg
  onxy : Ok (em (rn x) y) dg
  sm : Sm (mag z)
  oxm : Ok (em x (mag z)) dg
  oym : Ok (em y (mag z)) dg
  sxm : Sm (rm x (mag z) dg)
  sym : Sm (rm y (mag z) dg)
  dx1 : dg + 2 + cd (1, (0 : Int)).1 ≤ 1000
  dxx : dg + 2 + cd x.1 ≤ 1000
  oq1 : Ok (qt x.1 (1, (0 : Int)).1 (x.2 - (1, (0 : Int)).2) dg) dg
  oqx : x.1 ≠ 0 → Ok (qt x.1 x.1 (x.2 - x.2) dg) dg
  h1 : rm x y dg = rm y x dg
  h2 : rm x (1, 0) dg = x
  h3 : rm (rn x) y dg = rn (rm x y dg)
  h4 : rv x (1, 0) dg = x
  h5 : ga (cp x y) (cp (rm x (mag z) dg) (rm y (mag z) dg)) = true
  h6 : x.1 ≠ 0 → rv x x dg = (1, 0)
  h7 : x.1 = 0 → x = (0, 0)

section
variable {w : World} {A : Around} {h₀ base : Heap} {L : Addr} {env : Env} {Γ : Vars} {outer : List Env}
/-- a context over an older ground, behind an exception that was caught -/
theorem Cx.onto {h h' : Heap} (c : Cx w h₀ L Γ h) (gb : Gl w base) (hsz : base.objs.size ≤ L) (l : HLe base h') (u : h.UpToSlots h') : Cx w base L Γ h' :=
  ⟨gb, l, hsz, let ⟨m, n, p⟩ := c.hv; ⟨m, u.ns n, fun x d e => let ⟨v, a, b⟩ := p x d e; ⟨v, a, b.slots u⟩⟩⟩

theorem body_products_right (F : Fn env L) (hf : env.frame = some L) (k1 : env.kindOf "x" = some .local) (k2 : env.kindOf "y" = some .local) (k3 : env.kindOf "z" = some .local) (k4 : env.kindOf "digits" = some .local)
    (k5 : env.kindOf "product" = some .local) (k6 : env.kindOf "size" = some .local) (k7 : env.kindOf "order" = some .local)
    (g1 : env.kindOf "real_mul" = some .globalImplicit) (g2 : env.kindOf "_law_top" = some .globalImplicit) (g3 : env.kindOf "_law_one" = some .globalImplicit) (g4 : env.kindOf "real_neg" = some .globalImplicit) (g5 : env.kindOf "real_div" = some .globalImplicit)
    (g6 : env.kindOf "real_compare" = some .globalImplicit) (g7 : env.kindOf "_law_none" = some .globalImplicit) (g8 : env.kindOf "_law_goes_along" = some .globalImplicit) (g9 : env.kindOf "RunFault" = some .globalImplicit)
    (x y z : Int × Int) (dg : Int) (H : ProdsOk x y z dg) (r : Rm A 4)
    (gb : Gl w base) (hbh : HLe base h₀) (hsz : base.objs.size ≤ L) (hfr : A.frames = some (env :: outer)) (hff : h₀.FunFrames base outer) :
    Sx w A h₀ L [("digits", .int dg), ("z", .pair z), ("y", .pair y), ("x", .pair x)] (execs (bodyAt 27) env) (.retB base (Is (.bool true))) := by
  obtain ⟨d0, sx, sy, sz, sn, s1, oxy, oyx, ox1, onxy, sm, oxm, oym, sxm, sym, dx1, dxx, oq1, oqx, h1, h2, h3, h4, h5, h6, h7⟩ := H
  have hu : A.units + 64 < cLine := by have := r.hu; omega
  refine Sx.let F k5 (Ev.fn F g1 at_rm r (con_rm x y dg d0 sx oxy) (args4 Cx.Mono (Ev.var F k1) (Ev.var F k2) (Ev.var F k4) (ev_top F g2))) ?_
  refine Sx.pass (EvB.or Cx.Mono (EvB.cmp Cx.Mono (Ev.var F k5) (Ev.fn F g1 at_rm r (con_rm y x dg d0 sy oyx) (args4 Cx.Mono (Ev.var F k2) (Ev.var F k1) (Ev.var F k4) (ev_top F g2))) (fun s a b Q E => cp_neP hu))
    (fun _ => EvB.or Cx.Mono (EvB.cmp Cx.Mono (Ev.fn F g1 at_rm r (con_rm x (1, 0) dg d0 sx ox1) (args4 Cx.Mono (Ev.var F k1) (ev_one F g3) (Ev.var F k4) (ev_top F g2))) (Ev.var F k1) (fun s a b Q E => cp_neP hu)) (fun _ => EvB.orNil)))
    (by rw [← h1, h2]; simp) ?_
  refine Sx.pass (EvB.or Cx.Mono (EvB.cmp Cx.Mono (Ev.fn F g1 at_rm r (con_rm (rn x) y dg d0 sx.neg onxy) (args4 Cx.Mono (Ev.fn F g4 at_rn r (con_rn x) (EvL.cons Cx.Mono (Ev.var F k1) EvL.nil)) (Ev.var F k2) (Ev.var F k4) (ev_top F g2)))
      (Ev.fn F g4 at_rn r (con_rn (rm x y dg)) (EvL.cons Cx.Mono (Ev.var F k5) EvL.nil)) (fun s a b Q E => cp_neP hu))
    (fun _ => EvB.or Cx.Mono (EvB.cmp Cx.Mono (Ev.fn F g5 at_rv r (con_rv x (1, 0) dg d0 (by decide) sx s1 dx1 oq1) (args4 Cx.Mono (Ev.var F k1) (ev_one F g3) (Ev.var F k4) (ev_top F g2))) (Ev.var F k1) (fun s a b Q E => cp_neP hu)) (fun _ => EvB.orNil)))
    (by rw [h3, h4]; simp) ?_
  refine Sx.let F k6 (d := .pair (mag z)) (Ev.ite Cx.Mono (EvB.cmp Cx.Mono (Ev.fn F g6 at_cp r (con_cp z (0, 0) sz sn) (args2 Cx.Mono (Ev.var F k3) (ev_none F g7))) Ev.int (fun s a b Q E => cp_ge)) (fun h => ?_) (fun h => ?_)) ?_
  · rw [mag, if_pos (of_decide_eq_true h)]; exact Ev.var F k3
  · rw [mag, if_neg (of_decide_eq_false h)]; exact Ev.fn F g4 at_rn r (con_rn z) (EvL.cons Cx.Mono (Ev.var F k3) EvL.nil)
  refine Sx.let F k7 (Ev.fn F g6 at_cp r (con_cp (rm x (mag z) dg) (rm y (mag z) dg) sxm sym) (args2 Cx.Mono (Ev.fn F g1 at_rm r (con_rm x (mag z) dg d0 sx oxm) (args4 Cx.Mono (Ev.var F k1) (Ev.var F k6) (Ev.var F k4) (ev_top F g2)))
    (Ev.fn F g1 at_rm r (con_rm y (mag z) dg d0 sy oym) (args4 Cx.Mono (Ev.var F k2) (Ev.var F k6) (Ev.var F k4) (ev_top F g2))))) ?_
  refine Sx.pass (EvB.not (EvB.plain (Ev.fn F g8 at_ga r (con_ga _ _ (cp_bits x y)) (args2 Cx.Mono (Ev.fn F g6 at_cp r (con_cp x y sx sy) (args2 Cx.Mono (Ev.var F k1) (Ev.var F k2))) (Ev.var F k7)))))
    (by rw [h5]; rfl) ?_
  intro s Q E c q
  refine wpAny_execs_cons (wpAny_Try_except ?_)
  by_cases hx : x.1 = 0
  · refine wpAny_execs_cons (wpAny_Return_some (BoolOp_and (wpAny_Compare1 (Call_ ?_))))
    refine (Ev.glob (w := w) (A := A) (h₀ := h₀) (L := L) at_rv.e F.hk g5 F.hg (by decide)).run c fun v hp2 tk2 l2 ⟨hv, g2'⟩ => ?_
    subst hv
    refine callWith_def (o := oAt w 131) (fd := fAt w 131) (by rfl) ?_
    refine (args4 (w := w) (A := A) (C := Cx w h₀ L _) Cx.Mono (Ev.var F k1) (Ev.var F k1) (Ev.var F k4) (ev_top F g2)) _ _ _ (c.mono l2) fun vs hp3 tk3 l3 t => ?_
    have c3 := (c.mono l2).mono l3
    refine ⟨(g2'.keeps l3).1 _ _ (by rfl), ?_⟩
    have ns3 : ∃ m, hp3.Ns L m := let ⟨m, n, _⟩ := c3.hv; ⟨m, n⟩
    have hff3 : hp3.FunFrames base (env :: outer) := by
      refine ⟨by rw [F.hk]; decide, ?_, hff.of_keeps fun b o hb' _ => ⟨o, c3.le _ _ hb', rfl⟩⟩
      obtain ⟨m, o, es, ep, ho, hd, _⟩ := ns3
      exact ⟨L, o, hf, Heap.get?_none_of_le hsz, ho, fun vs q => by rw [hd] at q; cases q⟩
    refine div_raises r gb (HLe.trans hbh c3.le) hfr hff3 t hx fun e hp4 tk4 a0 hfl u4 => ?_
    refine wpAny_looks_onW hfr hf hfl fun hp5 hheld u5 => ?_
    refine wpAny_landsW hheld fun hp6 hfl6 u6 => ?_
    have c6 := c3.onto gb hsz hfl6.1 (u4.trans (u5.trans u6))
    obtain ⟨ob, hob, hobc⟩ := hfl6.there
    refine wpAny_handleBy_cons (codeAny_handlers_test ?_) (by intro q; cases q)
    refine (Ev.glob (w := w) (A := A.mark (some (.ref e))) (h₀ := base) (L := L) (v := .ref 44) (by rfl) F.hk g9 F.hg (by decide)).run c6 fun v hp7 tk7 l7 ⟨hv, g7'⟩ => ?_
    subst hv
    refine wpAny_excMatches_sub_self (g7'.1 _ _ (look44 (w := w))) (l7 _ _ hob) hobc (by decide +kernel) ?_
    dsimp only
    rw [if_pos rfl]
    refine codeAny_handlers_suite ?_
    have hfl7 : Heap.FlyingW base (env :: outer) e (.ref 44) a0 hp7 := by
      obtain ⟨a1, a2, a3, a4⟩ := hfl6
      obtain ⟨oe, vs', T', oT, ts, b1, b2, b3, b4, b5, b6, b7, b8, b9⟩ := a4
      exact ⟨fun b o ho => l7 _ _ (a1 b o ho), a2, a3.of_keeps fun b o ho _ => ⟨o, l7 _ _ ho, rfl⟩, oe, vs', T', oT, ts, l7 _ _ b1, b2, b3, b4, b5, b6, l7 _ _ b7, b8, b9⟩
    refine lands_againW hfl7 fun hp8 hfl8 u8 => ?_
    have c8 := (c6.mono l7).onto gb hsz hfl8.1 u8
    have hum : (A.mark (some (.ref e))).units + 64 < cLine := by rw [Around.mark_units]; exact hu
    refine (Sx.back (R := Is (.bool true)) (Ev.eq (d' := .bool true) (Ev.cmp Cx.Mono (Ev.var F k1) (ev_none F g7) (fun s a b Q E => cp_eqP hum)) ?_)) _ _ _ c8 fun v h' tk' l r' => ?_
    · rw [h7 hx]; rfl
    · exact q v h' tk' l r'
  · refine Sx.back (Ev.eq (Ev.and Cx.Mono (Ev.cmp Cx.Mono (Ev.fn F g5 at_rv r (con_rv x x dg d0 hx sx sx dxx (oqx hx)) (args4 Cx.Mono (Ev.var F k1) (Ev.var F k1) (Ev.var F k4) (ev_top F g2))) (ev_one F g3) (fun s a b Q E => cp_eqP hu))
      (fun _ => Ev.one (Ev.cmp Cx.Mono (Ev.var F k1) (ev_none F g7) (fun s a b Q E => cp_neP hu)))) ?_) s _ _ c fun v h' tk' l r' => q v h' tk' (HLe.trans hbh l) r'
    rw [h6 hx]
    have : (x != (0, 0)) = true := by
      simp only [bne_iff_ne, ne_eq]
      intro e
      exact hx (by rw [e])
    rw [this]
    simp
end
end Mine

end

/-! P1 -/
section
set_option Elab.async false
set_option linter.unusedVariables false
namespace Mine

/-! rounding of whole numbers -/
theorem ndN_lt {n k : Nat} : n < 10 ^ k → ndN n ≤ k := by
  induction k generalizing n with
  | zero => intro h; have : n = 0 := by simpa using h
            subst this; rw [ndN_zero]; exact Nat.le_refl _
  | succ k ih =>
    intro h
    by_cases h0 : n = 0
    · subst h0; rw [ndN_zero]; exact Nat.zero_le _
    · rw [ndN_pos (by omega)]
      have : n / 10 < 10 ^ k := by
        rw [Nat.pow_succ] at h
        omega
      have := ih this
      omega
theorem lt_ndN (n : Nat) : n < 10 ^ ndN n := by
  induction n using Nat.strongRecOn with
  | ind n ih =>
    by_cases h0 : n = 0
    · subst h0; rw [ndN_zero]; decide
    · rw [ndN_pos (by omega), Nat.pow_succ]
      have := ih (n / 10) (by omega)
      omega
theorem ndN_ge {n k : Nat} (h : 10 ^ k ≤ n) : k + 1 ≤ ndN n := by
  have h1 := lt_ndN n
  have : 10 ^ k < 10 ^ ndN n := Nat.lt_of_le_of_lt h h1
  have := (Nat.pow_lt_pow_iff_right (by decide : 1 < 10)).mp this
  omega
theorem le_of_ndN {n : Nat} (h : 0 < n) : 10 ^ (ndN n - 1) ≤ n := by
  rcases Nat.lt_or_ge n (10 ^ (ndN n - 1)) with h1 | h1
  · have := ndN_lt h1
    have h2 : 1 ≤ ndN n := by rw [ndN_pos h]; omega
    omega
  · exact h1
theorem ndN_eq {n k : Nat} (h1 : 10 ^ k ≤ n) (h2 : n < 10 ^ (k + 1)) : ndN n = k + 1 := Nat.le_antisymm (ndN_lt h2) (ndN_ge h1)
theorem ndN_pos' {n : Nat} (h : 0 < n) : 0 < ndN n := by rw [ndN_pos h]; omega
theorem ndN_scale {n : Nat} (h : 0 < n) (k : Nat) : ndN (n * 10 ^ k) = ndN n + k := by
  have h1 := le_of_ndN h
  have h2 := lt_ndN n
  have h3 := ndN_pos' h
  have e : ndN n + k = (ndN n - 1 + k) + 1 := by omega
  rw [e]
  refine ndN_eq ?_ ?_
  · rw [Nat.pow_add]; exact Nat.mul_le_mul_right _ h1
  · have e2 : ndN n - 1 + k + 1 = ndN n + k := by omega
    rw [e2, Nat.pow_add]
    exact Nat.mul_lt_mul_of_pos_right h2 (Nat.pow_pos (by decide))
theorem ndN_mono {a b : Nat} (h : a ≤ b) : ndN a ≤ ndN b := ndN_lt (Nat.lt_of_le_of_lt h (lt_ndN b))

def upN (a P : Nat) : Nat := if P < 2 * (a % P) ∨ (2 * (a % P) = P ∧ a / P % 2 = 1) then a / P + 1 else a / P
def rN (dg n : Nat) : Nat := if ndN n ≤ dg then n else upN n (10 ^ (ndN n - dg)) * 10 ^ (ndN n - dg)

theorem upN_le (a P : Nat) : upN a P ≤ a / P + 1 := by unfold upN; split <;> omega
theorem le_upN (a P : Nat) : a / P ≤ upN a P := by unfold upN; split <;> omega
theorem upN_exact (u P : Nat) (h : 0 < P) : upN (u * P) P = u := by
  unfold upN
  rw [Nat.mul_mod_left, Nat.mul_div_cancel _ h]
  rw [if_neg (by omega)]
theorem upN_scale (a P k : Nat) (hP : 0 < P) : upN (a * 10 ^ k) (P * 10 ^ k) = upN a P := by
  have hk : 0 < 10 ^ k := Nat.pow_pos (by decide)
  unfold upN
  rw [Nat.mul_div_mul_right _ _ hk, Nat.mul_mod_mul_right]
  have e1 : (P * 10 ^ k < 2 * (a % P * 10 ^ k)) ↔ (P < 2 * (a % P)) := by
    rw [← Nat.mul_assoc]
    exact Nat.mul_lt_mul_right hk
  have e2 : (2 * (a % P * 10 ^ k) = P * 10 ^ k) ↔ (2 * (a % P) = P) := by
    rw [← Nat.mul_assoc]
    exact Nat.mul_right_cancel_iff hk
  simp only [e1, e2]
theorem upN_mono {a b P : Nat} (h : a ≤ b) (hP : 0 < P) : upN a P ≤ upN b P := by
  have hq : a / P ≤ b / P := Nat.div_le_div_right h
  rcases Nat.lt_or_ge (a / P) (b / P) with h1 | h1
  · have := upN_le a P
    have := le_upN b P
    omega
  · have e : a / P = b / P := Nat.le_antisymm hq h1
    have ea := Nat.div_add_mod a P
    have eb := Nat.div_add_mod b P
    rw [e] at ea
    have hr : a % P ≤ b % P := by omega
    unfold upN
    rw [e]
    split <;> split <;> omega

section
variable {dg : Nat}
theorem rN_zero : rN dg 0 = 0 := by unfold rN; rw [ndN_zero, if_pos (Nat.zero_le _)]
theorem rN_small {u : Nat} (hd : 1 ≤ dg) (h : u ≤ 10 ^ dg) : rN dg u = u := by
  unfold rN
  by_cases h1 : ndN u ≤ dg
  · rw [if_pos h1]
  · rw [if_neg h1]
    have hge : 10 ^ dg ≤ u := by
      rcases Nat.lt_or_ge u (10 ^ dg) with h2 | h2
      · exact absurd (ndN_lt h2) h1
      · exact h2
    have e : u = 10 ^ dg := Nat.le_antisymm h hge
    have hn : ndN u = dg + 1 := by rw [e]; exact ndN_eq (Nat.le_refl _) (Nat.pow_lt_pow_right (by decide) (Nat.lt_succ_self _))
    rw [hn, Nat.add_sub_cancel_left]
    have e2 : u = 10 ^ (dg - 1) * 10 ^ 1 := by
      rw [e, ← Nat.pow_add]; congr 1; omega
    rw [e2, upN_exact _ _ (by decide)]
theorem rN_scale (hd : 1 ≤ dg) (n k : Nat) : rN dg (n * 10 ^ k) = rN dg n * 10 ^ k := by
  by_cases h0 : n = 0
  · subst h0; rw [Nat.zero_mul, rN_zero, Nat.zero_mul]
  · have hn : 0 < n := by omega
    unfold rN
    rw [ndN_scale hn]
    by_cases h1 : ndN n ≤ dg
    · rw [if_pos h1]
      by_cases h2 : ndN n + k ≤ dg
      · rw [if_pos h2]
      · rw [if_neg h2]
        have hk : ndN n + k - dg ≤ k := by omega
        have e : 10 ^ k = 10 ^ (k - (ndN n + k - dg)) * 10 ^ (ndN n + k - dg) := by
          rw [← Nat.pow_add]; congr 1; omega
        have e2 : n * 10 ^ k = n * 10 ^ (k - (ndN n + k - dg)) * 10 ^ (ndN n + k - dg) := by rw [Nat.mul_assoc, ← e]
        rw [e2, upN_exact _ _ (Nat.pow_pos (by decide))]
    · rw [if_neg h1, if_neg (by omega)]
      have e : 10 ^ (ndN n + k - dg) = 10 ^ (ndN n - dg) * 10 ^ k := by rw [← Nat.pow_add]; congr 1; omega
      rw [e, upN_scale _ _ _ (Nat.pow_pos (by decide)), Nat.mul_assoc]
/-- what is kept -/
theorem rN_form (n : Nat) : ∃ u d, rN dg n = u * 10 ^ d ∧ u ≤ 10 ^ dg := by
  unfold rN
  by_cases h : ndN n ≤ dg
  · refine ⟨n, 0, by rw [if_pos h, Nat.pow_zero, Nat.mul_one], Nat.le_of_lt (Nat.lt_of_lt_of_le (lt_ndN n) (Nat.pow_le_pow_right (by decide) h))⟩
  · refine ⟨_, _, by rw [if_neg h], ?_⟩
    have h1 := upN_le n (10 ^ (ndN n - dg))
    have h2 : n / 10 ^ (ndN n - dg) < 10 ^ dg := by
      rw [Nat.div_lt_iff_lt_mul (Nat.pow_pos (by decide)), ← Nat.pow_add]
      have e : dg + (ndN n - dg) = ndN n := by omega
      rw [e]; exact lt_ndN n
    omega
theorem rN_idem (hd : 1 ≤ dg) (n : Nat) : rN dg (rN dg n) = rN dg n := by
  obtain ⟨u, d, e, h⟩ := rN_form (dg := dg) n
  rw [e, rN_scale hd, rN_small hd h]
theorem rN_le_pow (hd : 1 ≤ dg) (n : Nat) : rN dg n ≤ 10 ^ ndN n := by
  unfold rN
  by_cases h : ndN n ≤ dg
  · rw [if_pos h]; exact Nat.le_of_lt (lt_ndN n)
  · rw [if_neg h]
    have h1 := upN_le n (10 ^ (ndN n - dg))
    have h2 : n / 10 ^ (ndN n - dg) < 10 ^ dg := by
      rw [Nat.div_lt_iff_lt_mul (Nat.pow_pos (by decide)), ← Nat.pow_add]
      have e : dg + (ndN n - dg) = ndN n := by omega
      rw [e]; exact lt_ndN n
    have e : 10 ^ ndN n = 10 ^ dg * 10 ^ (ndN n - dg) := by rw [← Nat.pow_add]; congr 1; omega
    rw [e]
    exact Nat.mul_le_mul_right _ (by omega)
theorem pow_le_rN (hd : 1 ≤ dg) {n : Nat} (hn : 0 < n) : 10 ^ (ndN n - 1) ≤ rN dg n := by
  have h0 := le_of_ndN hn
  unfold rN
  by_cases h : ndN n ≤ dg
  · rw [if_pos h]; exact h0
  · rw [if_neg h]
    have h1 := le_upN n (10 ^ (ndN n - dg))
    have h2 : 10 ^ (dg - 1) ≤ n / 10 ^ (ndN n - dg) := by
      rw [Nat.le_div_iff_mul_le (Nat.pow_pos (by decide)), ← Nat.pow_add]
      have e : dg - 1 + (ndN n - dg) = ndN n - 1 := by omega
      rw [e]; exact h0
    have e : 10 ^ (ndN n - 1) = 10 ^ (dg - 1) * 10 ^ (ndN n - dg) := by rw [← Nat.pow_add]; congr 1; omega
    rw [e]
    exact Nat.mul_le_mul_right _ (by omega)
theorem rN_mono (hd : 1 ≤ dg) {a b : Nat} (h : a ≤ b) : rN dg a ≤ rN dg b := by
  by_cases ha : a = 0
  · subst ha; rw [rN_zero]; exact Nat.zero_le _
  have hab := ndN_mono h
  rcases Nat.lt_or_ge (ndN a) (ndN b) with h1 | h1
  · have h2 := rN_le_pow hd a
    have h3 := pow_le_rN hd (n := b) (by omega)
    have h4 : 10 ^ ndN a ≤ 10 ^ (ndN b - 1) := Nat.pow_le_pow_right (by decide) (by omega)
    exact Nat.le_trans h2 (Nat.le_trans h4 h3)
  · have e : ndN a = ndN b := Nat.le_antisymm hab h1
    unfold rN
    rw [e]
    by_cases h2 : ndN b ≤ dg
    · rw [if_pos h2, if_pos h2]; exact h
    · rw [if_neg h2, if_neg h2]
      exact Nat.mul_le_mul_right _ (upN_mono h (Nat.pow_pos (by decide)))
theorem rN_pow (hd : 1 ≤ dg) (k : Nat) : rN dg (10 ^ k) = 10 ^ k := by
  have := rN_scale hd 1 k
  rw [Nat.one_mul] at this
  rw [this, rN_small hd (Nat.one_le_pow _ _ (by decide)), Nat.one_mul]
theorem rN_pos (hd : 1 ≤ dg) {n : Nat} (h : 0 < n) : 0 < rN dg n := Nat.lt_of_lt_of_le (Nat.pow_pos (by decide)) (pow_le_rN hd h)
end
end Mine

end

/-! P2 -/
section
set_option Elab.async false
set_option linter.unusedVariables false
namespace Mine
/-- the value, scaled by 10^200 -/
def V (p : Int × Int) : Int := p.1 * 10 ^ (p.2 + 200).toNat
def canon (W : Int) : Int × Int := sz W (-200)
def rI (dg : Nat) (W : Int) : Int := if W < 0 then -(rN dg W.natAbs : Int) else (rN dg W.natAbs : Int)

theorem p10 (k : Nat) : (0 : Int) < 10 ^ k := Int.pow_pos (by decide)
theorem natAbs_p10 (k : Nat) : ((10 : Int) ^ k).natAbs = 10 ^ k := by rw [Int.natAbs_pow]; rfl
theorem cast_p10 (k : Nat) : ((10 ^ k : Nat) : Int) = (10 : Int) ^ k := by rw [Int.natCast_pow]; rfl
theorem V_neg (p : Int × Int) : V (rn p) = -V p := by unfold V rn; exact Int.neg_mul _ _
theorem V_zero {p : Int × Int} (h : p.1 = 0) : V p = 0 := by unfold V; rw [h, Int.zero_mul]
theorem V_eq_zero {p : Int × Int} : V p = 0 ↔ p.1 = 0 := by
  constructor
  · intro h
    rcases Int.mul_eq_zero.mp h with h | h
    · exact h
    · have := p10 (p.2 + 200).toNat; omega
  · exact V_zero
theorem V_pos {p : Int × Int} : 0 < V p ↔ 0 < p.1 := by
  unfold V
  constructor
  · intro h
    rcases Int.lt_trichotomy p.1 0 with h1 | h1 | h1
    · have := Int.mul_neg_of_neg_of_pos h1 (p10 (p.2 + 200).toNat); omega
    · rw [h1, Int.zero_mul] at h; omega
    · exact h1
  · exact fun h => Int.mul_pos h (p10 _)
theorem sg_V (p : Int × Int) : sg p.1 = sg (V p) := by
  unfold sg
  by_cases h0 : p.1 = 0
  · rw [if_pos h0, if_pos (V_eq_zero.mpr h0)]
  · rw [if_neg h0, if_neg (fun h => h0 (V_eq_zero.mp h))]
    by_cases h1 : 0 < p.1
    · rw [if_pos h1, if_pos (V_pos.mpr h1)]
    · rw [if_neg h1, if_neg (fun h => h1 (V_pos.mp h))]

theorem sz_scale (m e : Int) (h : m ≠ 0) (k : Nat) : sz (m * 10 ^ k) e = sz m (e + k) := by
  induction k generalizing e with
  | zero => simp
  | succ k ih =>
    have e1 : m * 10 ^ (k + 1) = m * 10 ^ k * 10 := by rw [Int.pow_succ, Int.mul_assoc]
    have hne : m * 10 ^ k ≠ 0 := by
      intro h'
      rcases Int.mul_eq_zero.mp h' with h' | h'
      · exact h h'
      · have := p10 k; omega
    rw [e1, sz_go (by omega) (by omega), Int.mul_ediv_cancel _ (by decide), ih]
    congr 1
    omega
theorem sz_V {m e : Int} (he : -200 ≤ e) : sz m e = canon (V (m, e)) := by
  unfold canon V
  by_cases h : m = 0
  · subst h; rw [Int.zero_mul, sz_zero, sz_zero]
  · rw [sz_scale m _ h]
    congr 1
    show e = -200 + ((e + 200).toNat : Int)
    omega
theorem V_sz : ∀ (n : Nat) (m e : Int), m.natAbs = n → -200 ≤ e → V (sz m e) = V (m, e) := by
  intro n
  induction n using Nat.strongRecOn with
  | ind n ih =>
    intro m e hn he
    by_cases h : m = 0
    · subst h; rw [sz_zero]; unfold V; simp
    · by_cases k : m % 10 = 0
      · rw [sz_go h k, ih (m / 10).natAbs (by omega) _ _ rfl (by omega)]
        unfold V
        have e1 : (e + 1 + 200).toNat = (e + 200).toNat + 1 := by omega
        show m / 10 * 10 ^ (e + 1 + 200).toNat = m * 10 ^ (e + 200).toNat
        rw [e1, Int.pow_succ, Int.mul_comm ((10 : Int) ^ (e + 200).toNat) 10, ← Int.mul_assoc]
        congr 1
        omega
      · rw [sz_stop h k]
theorem V_canon (W : Int) : V (canon W) = W := by
  unfold canon
  rw [V_sz _ W (-200) rfl (Int.le_refl _)]
  unfold V
  simp
theorem canon_inj {W X : Int} (h : canon W = canon X) : W = X := by rw [← V_canon W, h, V_canon]
theorem sz_neg : ∀ (n : Nat) (m e : Int), m.natAbs = n → sz (-m) e = rn (sz m e) := by
  intro n
  induction n using Nat.strongRecOn with
  | ind n ih =>
    intro m e hn
    by_cases h : m = 0
    · subst h; rw [Int.neg_zero, sz_zero]; rfl
    · by_cases k : m % 10 = 0
      · rw [sz_go h k, sz_go (m := -m) (by omega) (by omega), ← ih (m / 10).natAbs (by omega) _ _ rfl]
        congr 1
        omega
      · rw [sz_stop h k, sz_stop (m := -m) (by omega) (by omega)]; rfl
theorem canon_neg (W : Int) : canon (-W) = rn (canon W) := sz_neg _ W _ rfl
theorem canon_zero : canon 0 = (0, 0) := sz_zero _
theorem canon_fst_zero {W : Int} : (canon W).1 = 0 ↔ W = 0 := by
  rw [← V_eq_zero, V_canon]

section
variable {dg : Nat}
theorem rI_zero : rI dg 0 = 0 := by unfold rI; simp [rN_zero]
theorem rI_neg (W : Int) : rI dg (-W) = -rI dg W := by
  unfold rI
  rw [Int.natAbs_neg]
  rcases Int.lt_trichotomy W 0 with h | h | h
  · rw [if_neg (by omega), if_pos h, Int.neg_neg]
  · subst h; simp [rN_zero]
  · rw [if_pos (by omega), if_neg (by omega)]
theorem rI_natAbs (W : Int) : (rI dg W).natAbs = rN dg W.natAbs := by unfold rI; split <;> simp
theorem rI_mono (hd : 1 ≤ dg) {W X : Int} (h : W ≤ X) : rI dg W ≤ rI dg X := by
  unfold rI
  by_cases h1 : W < 0
  · by_cases h2 : X < 0
    · rw [if_pos h1, if_pos h2]
      have := rN_mono hd (show X.natAbs ≤ W.natAbs by omega)
      omega
    · rw [if_pos h1, if_neg h2]; omega
  · rw [if_neg h1, if_neg (by omega)]
    have := rN_mono hd (show W.natAbs ≤ X.natAbs by omega)
    omega
theorem rI_idem (hd : 1 ≤ dg) (W : Int) : rI dg (rI dg W) = rI dg W := by
  rcases Int.lt_or_le W 0 with h | h
  · have e : rI dg W = -(rN dg W.natAbs : Int) := by unfold rI; rw [if_pos h]
    rw [e, rI_neg]
    congr 1
    unfold rI
    rw [if_neg (by omega), Int.natAbs_natCast, rN_idem hd]
  · have e : rI dg W = (rN dg W.natAbs : Int) := by unfold rI; rw [if_neg (by omega)]
    rw [e]
    unfold rI
    rw [if_neg (by omega), Int.natAbs_natCast, rN_idem hd]
theorem rI_zero_iff (hd : 1 ≤ dg) {W : Int} : rI dg W = 0 ↔ W = 0 := by
  constructor
  · intro h
    have h1 := rI_natAbs (dg := dg) W
    rw [h] at h1
    have h2 : rN dg W.natAbs = 0 := h1.symm
    rcases Nat.eq_zero_or_pos W.natAbs with h3 | h3
    · omega
    · have := rN_pos hd h3; omega
  · rintro rfl; exact rI_zero
theorem rI_p10 (hd : 1 ≤ dg) (k : Nat) : rI dg (10 ^ k) = 10 ^ k := by
  unfold rI
  have := p10 k
  rw [if_neg (by omega), natAbs_p10, rN_pow hd, cast_p10]
theorem rI_scale (hd : 1 ≤ dg) (W : Int) (k : Nat) : rI dg (W * 10 ^ k) = rI dg W * 10 ^ k := by
  have hp := p10 k
  have e : (W * 10 ^ k).natAbs = W.natAbs * 10 ^ k := by rw [Int.natAbs_mul, natAbs_p10]
  unfold rI
  rw [e, rN_scale hd, Int.natCast_mul, cast_p10]
  by_cases h : W < 0
  · rw [if_pos h, if_pos (Int.mul_neg_of_neg_of_pos h hp), Int.neg_mul]
  · rw [if_neg h, if_neg (by have := Int.mul_nonneg (a := W) (b := 10 ^ k) (by omega) (by omega); omega)]
end

/-- up on whole numbers is upN -/
theorem up_eq {a P : Nat} (hP : 0 < P) : up (a : Int) (P : Int) = (upN a P : Int) := by
  unfold up upN
  have e1 : ((a : Int) % (P : Int)) = ((a % P : Nat) : Int) := by omega
  have e2 : ((a : Int) / (P : Int)) = ((a / P : Nat) : Int) := by omega
  rw [e1, e2]
  by_cases h : P < 2 * (a % P) ∨ (2 * (a % P) = P ∧ a / P % 2 = 1)
  · rw [if_pos h, if_pos]
    · omega
    · rcases h with h | ⟨h, k⟩
      · simp only [Bool.or_eq_true, decide_eq_true_eq]
        left; omega
      · simp only [Bool.or_eq_true, decide_eq_true_eq, Bool.and_eq_true, beq_iff_eq]
        right; omega
  · rw [if_neg h, if_neg]
    simp only [Bool.or_eq_true, decide_eq_true_eq, Bool.and_eq_true, beq_iff_eq]
    omega
end Mine

end

/-! P3 -/
section
set_option Elab.async false
set_option linter.unusedVariables false
namespace Mine
theorem ab_eq (m : Int) : ab m = (m.natAbs : Int) := by unfold ab; split <;> omega
theorem rd_eq {m e : Int} {dg : Nat} (hd : 1 ≤ dg) (he : -200 ≤ e) : rd m e dg = canon (rI dg (V (m, e))) := by
  have hV : V (m, e) = m * 10 ^ (e + 200).toNat := rfl
  rw [hV, rI_scale hd]
  unfold rd cd
  by_cases h : (0 : Int) < (ndN m.natAbs : Int) - dg
  · rw [if_pos h]
    have hm : m ≠ 0 := by
      rintro rfl
      have : ndN (Int.natAbs 0) = 0 := ndN_zero
      rw [this] at h; omega
    have ed : ((ndN m.natAbs : Int) - dg).toNat = ndN m.natAbs - dg := by omega
    have ed' : ((ndN m.natAbs : Int) - dg) = ((ndN m.natAbs - dg : Nat) : Int) := by omega
    rw [ed, ab_eq, ← cast_p10, up_eq (Nat.pow_pos (by decide)), sz_V (by omega)]
    congr 1
    unfold V
    dsimp only
    rw [ed']
    have ek : (e + ((ndN m.natAbs - dg : Nat) : Int) + 200).toNat = (ndN m.natAbs - dg) + (e + 200).toNat := by omega
    rw [ek, Int.pow_add, ← Int.mul_assoc]
    congr 1
    unfold rI rN
    rw [if_neg (show ¬ ndN m.natAbs ≤ dg by omega), Int.natCast_mul, cast_p10]
    by_cases hs : m < 0
    · rw [if_neg (by omega), if_pos hs, Int.neg_mul]
    · rw [if_pos (by omega), if_neg hs]
  · rw [if_neg h, sz_V he]
    congr 1
    rw [hV]
    congr 1
    unfold rI rN
    rw [if_pos (show ndN m.natAbs ≤ dg by omega)]
    split <;> omega

/-- the digits of a rounded number -/
theorem sz_small : ∀ (n : Nat) (m e : Int), m.natAbs = n → (sz m e).1.natAbs ≤ m.natAbs := by
  intro n
  induction n using Nat.strongRecOn with
  | ind n ih =>
    intro m e hn
    by_cases h : m = 0
    · subst h; rw [sz_zero]; exact Nat.le_refl _
    · by_cases k : m % 10 = 0
      · rw [sz_go h k]
        have := ih (m / 10).natAbs (by omega) (m / 10) (e + 1) rfl
        omega
      · rw [sz_stop h k]; exact Nat.le_refl _
theorem rI_form {dg : Nat} (W : Int) : ∃ (u : Int) (d : Nat), rI dg W = u * 10 ^ d ∧ u.natAbs ≤ 10 ^ dg := by
  obtain ⟨u, d, e, h⟩ := rN_form (dg := dg) W.natAbs
  unfold rI
  rw [e, Int.natCast_mul, cast_p10]
  by_cases hs : W < 0
  · exact ⟨-(u : Int), d, by rw [if_pos hs, Int.neg_mul], by rw [Int.natAbs_neg, Int.natAbs_natCast]; exact h⟩
  · exact ⟨(u : Int), d, by rw [if_neg hs], by rw [Int.natAbs_natCast]; exact h⟩
theorem canon_small {dg : Nat} (W : Int) : (canon (rI dg W)).1.natAbs ≤ 10 ^ dg := by
  obtain ⟨u, d, e, h⟩ := rI_form (dg := dg) W
  rw [e]
  by_cases h0 : u = 0
  · subst h0; rw [Int.zero_mul, canon_zero]; exact Nat.zero_le _
  · unfold canon
    rw [sz_scale u _ h0]
    exact Nat.le_trans (sz_small _ _ _ rfl) h

/-- the exponent of a number's one pair lies between -/
theorem canon_snd_ge (W : Int) : -200 ≤ (canon W).2 := by
  have key : ∀ (n : Nat) (m e : Int), m.natAbs = n → -200 ≤ e → -200 ≤ (sz m e).2 := by
    intro n
    induction n using Nat.strongRecOn with
    | ind n ih =>
      intro m e hn he
      by_cases h : m = 0
      · subst h; rw [sz_zero]; decide
      · by_cases k : m % 10 = 0
        · rw [sz_go h k]; exact ih (m / 10).natAbs (by omega) _ _ rfl (by omega)
        · rw [sz_stop h k]; exact he
  exact key _ W (-200) rfl (Int.le_refl _)
theorem canon_scale {u : Int} (h : u ≠ 0) (k : Nat) : (k : Int) - 200 ≤ (canon (u * 10 ^ k)).2 := by
  unfold canon
  rw [sz_scale u _ h]
  have key : ∀ (n : Nat) (m e : Int), m.natAbs = n → m ≠ 0 → e ≤ (sz m e).2 := by
    intro n
    induction n using Nat.strongRecOn with
    | ind n ih =>
      intro m e hn h
      by_cases k : m % 10 = 0
      · rw [sz_go h k]
        have := ih (m / 10).natAbs (by omega) (m / 10) (e + 1) rfl (by omega)
        omega
      · rw [sz_stop h k]; exact Int.le_refl _
  have := key _ u (-200 + k) rfl h
  omega
theorem natAbs_V (p : Int × Int) : (V p).natAbs = p.1.natAbs * 10 ^ (p.2 + 200).toNat := by unfold V; rw [Int.natAbs_mul, natAbs_p10]
theorem lead_lt {p : Int × Int} {k : Nat} (h : p.1 ≠ 0) (hp : -200 ≤ p.2) (hk : (V p).natAbs ≤ 10 ^ k) : p.2 + cd p.1 - 1 ≤ (k : Int) - 200 := by
  rw [natAbs_V] at hk
  have h1 := le_of_ndN (n := p.1.natAbs) (by omega)
  have h2 : 10 ^ (ndN p.1.natAbs - 1) * 10 ^ (p.2 + 200).toNat ≤ 10 ^ k := Nat.le_trans (Nat.mul_le_mul_right _ h1) hk
  rw [← Nat.pow_add] at h2
  have h3 := (Nat.pow_le_pow_iff_right (by decide : 1 < 10)).mp h2
  have h4 := ndN_pos' (n := p.1.natAbs) (by omega)
  unfold cd
  omega
theorem lead_ge {p : Int × Int} {k : Nat} (hp : -200 ≤ p.2) (hk : 10 ^ k ≤ (V p).natAbs) : (k : Int) - 200 < p.2 + cd p.1 := by
  rw [natAbs_V] at hk
  have h1 := lt_ndN p.1.natAbs
  have h2 : 10 ^ k < 10 ^ ndN p.1.natAbs * 10 ^ (p.2 + 200).toNat := Nat.lt_of_le_of_lt hk (Nat.mul_lt_mul_of_pos_right h1 (Nat.pow_pos (by decide)))
  rw [← Nat.pow_add] at h2
  have h3 := (Nat.pow_lt_pow_iff_right (by decide : 1 < 10)).mp h2
  unfold cd
  omega

/-- in the range where nothing under- or overflows -/
structure Gd (p : Int × Int) : Prop where
  lo : -200 ≤ p.2
  up : (V p).natAbs ≤ 10 ^ 290
  dn : V p ≠ 0 → 10 ^ 111 ≤ (V p).natAbs
section
variable {dg : Nat}
theorem rI_up (hd : 1 ≤ dg) {W : Int} {k : Nat} (h : W.natAbs ≤ 10 ^ k) : (rI dg W).natAbs ≤ 10 ^ k := by
  rw [rI_natAbs, ← rN_pow hd k]; exact rN_mono hd h
theorem rI_dn (hd : 1 ≤ dg) {W : Int} {k : Nat} (h : 10 ^ k ≤ W.natAbs) : 10 ^ k ≤ (rI dg W).natAbs := by
  rw [rI_natAbs, ← rN_pow hd k]; exact rN_mono hd h
theorem Gd.rd {p : Int × Int} (g : Gd p) (hd : 1 ≤ dg) : Mine.rd p.1 p.2 dg = canon (rI dg (V p)) := rd_eq hd g.lo
theorem Gd.rr {p : Int × Int} (g : Gd p) (hd : 1 ≤ dg) : Mine.rr p.1 p.2 dg = canon (rI dg (V p)) := by
  unfold Mine.rr
  rw [g.rd hd]
  by_cases h0 : V p = 0
  · rw [h0, rI_zero, canon_zero, if_pos (.inl rfl)]
  · have hne : rI dg (V p) ≠ 0 := fun h => h0 ((rI_zero_iff hd).mp h)
    have h1 : (canon (rI dg (V p))).1 ≠ 0 := fun h => hne (canon_fst_zero.mp h)
    have h2 := lead_ge (k := 111) (canon_snd_ge (rI dg (V p))) (by rw [V_canon]; exact rI_dn hd (g.dn h0))
    rw [if_neg (by omega)]
theorem Gd.ok {p : Int × Int} (g : Gd p) (hd : 1 ≤ dg) : Ok p dg := by
  refine ⟨?_, ?_⟩
  · have h1 : p.1.natAbs ≤ (V p).natAbs := by
      rw [natAbs_V]; exact Nat.le_mul_of_pos_right _ (Nat.pow_pos (by decide))
    have h2 : p.1.natAbs < 10 ^ 291 := Nat.lt_of_le_of_lt (Nat.le_trans h1 g.up) (Nat.pow_lt_pow_right (by decide) (by decide))
    have := ndN_lt h2
    unfold cd; omega
  · rw [g.rd hd]
    by_cases h1 : (canon (rI dg (V p))).1 = 0
    · exact .inl h1
    · have := lead_lt (k := 290) h1 (canon_snd_ge _) (by rw [V_canon]; exact rI_up hd g.up)
      exact .inr (by omega)
theorem Gd.sm {p : Int × Int} (g : Gd p) (hd : 1 ≤ dg) (hd7 : dg ≤ 7) : Sm (Mine.rr p.1 p.2 dg) := by
  rw [g.rr hd]
  have h1 := canon_small (dg := dg) (V p)
  have h2 : (canon (rI dg (V p))).1.natAbs ≤ 10 ^ 7 := Nat.le_trans h1 (Nat.pow_le_pow_right (by decide) hd7)
  have h3 := canon_snd_ge (rI dg (V p))
  have h4 : (canon (rI dg (V p))).2 ≤ 400 := by
    by_cases h0 : (canon (rI dg (V p))).1 = 0
    · have := canon_fst_zero.mp h0
      rw [this, canon_zero]; decide
    · have := lead_lt (k := 290) h0 h3 (by rw [V_canon]; exact rI_up hd g.up)
      have := cd_nonneg (canon (rI dg (V p))).1
      omega
  refine ⟨?_, ?_, by omega, h4⟩ <;> omega
theorem Gd.V {p : Int × Int} (g : Gd p) (hd : 1 ≤ dg) : Mine.V (Mine.rr p.1 p.2 dg) = rI dg (Mine.V p) := by rw [g.rr hd, V_canon]
theorem Gd.neg {p : Int × Int} (g : Gd p) : Gd (rn p) := ⟨g.lo, by rw [V_neg, Int.natAbs_neg]; exact g.up, fun h => by rw [V_neg, Int.natAbs_neg]; exact g.dn fun h' => h (by rw [V_neg, h']; rfl)⟩
end
end Mine

end

/-! P4 -/
section
set_option Elab.async false
set_option linter.unusedVariables false
set_option exponentiation.threshold 2000
namespace Mine
theorem V_ea {x y : Int × Int} (hx : -200 ≤ x.2) (hy : -200 ≤ y.2) : V (ea x y) = V x + V y := by
  unfold ea
  by_cases h1 : x.1 = 0
  · rw [if_pos h1, V_zero h1, Int.zero_add]
  rw [if_neg h1]
  by_cases h2 : y.1 = 0
  · rw [if_pos h2, V_zero h2, Int.add_zero]
  rw [if_neg h2]
  have l1 := lo_le_left x.2 y.2
  have l2 := lo_le_right x.2 y.2
  have l3 := lo_ge hx hy
  unfold V
  dsimp only
  generalize lo x.2 y.2 = l at l1 l2 l3
  rw [Int.add_mul, Int.mul_assoc, Int.mul_assoc, ← Int.pow_add, ← Int.pow_add]
  have e1 : (x.2 - l).toNat + (l + 200).toNat = (x.2 + 200).toNat := by omega
  have e2 : (y.2 - l).toNat + (l + 200).toNat = (y.2 + 200).toNat := by omega
  rw [e1, e2]
theorem ea_snd {x y : Int × Int} (hx : -200 ≤ x.2) (hy : -200 ≤ y.2) : -200 ≤ (ea x y).2 := by
  unfold ea
  split
  · exact hy
  · split
    · exact hx
    · exact lo_ge hx hy
theorem cmp_eq {x y : Int × Int} (hx : -200 ≤ x.2) (hy : -200 ≤ y.2) : cp x y = sg (V x - V y) := by
  unfold cp
  rw [sg_V, V_ea hx (show -200 ≤ (rn y).2 from hy), V_neg, Int.sub_eq_add_neg]
theorem V_em {x y : Int × Int} (hx : -200 ≤ x.2) (hy : -200 ≤ y.2) (hxy : -200 ≤ x.2 + y.2) : V (em x y) * 10 ^ 200 = V x * V y := by
  unfold V em
  dsimp only
  have e : (x.2 + y.2 + 200).toNat + 200 = (x.2 + 200).toNat + (y.2 + 200).toNat := by omega
  rw [Int.mul_assoc, ← Int.pow_add, e, Int.pow_add]
  simp only [Int.mul_assoc, Int.mul_left_comm]

theorem sg_zero {a : Int} : sg a = 0 ↔ a = 0 := by unfold sg; split <;> (try split) <;> omega
theorem sg_pos {a : Int} : sg a = 1 ↔ 0 < a := by unfold sg; split <;> (try split) <;> omega
theorem sg_neg (a : Int) : sg (-a) = -sg a := by unfold sg; (repeat' split) <;> omega
theorem sg_cases (a : Int) : (a = 0 ∧ sg a = 0) ∨ (0 < a ∧ sg a = 1) ∨ (a < 0 ∧ sg a = -1) := by unfold sg; (repeat' split) <;> omega
theorem ga_of {X Y A B : Int} (h1 : X < Y → A ≤ B) (h2 : X = Y → A = B) (h3 : Y < X → B ≤ A) : ga (sg (X - Y)) (sg (A - B)) = true := by
  rcases sg_cases (X - Y) with ⟨h, e⟩ | ⟨h, e⟩ | ⟨h, e⟩
  · have := h2 (by omega)
    subst this
    have e2 : sg (A - A) = 0 := sg_zero.mpr (by omega)
    rw [e, e2]; rfl
  · have := h3 (by omega)
    rcases sg_cases (A - B) with ⟨k, e2⟩ | ⟨k, e2⟩ | ⟨k, e2⟩
    · rw [e, e2]; rfl
    · rw [e, e2]; rfl
    · omega
  · have := h1 (by omega)
    rcases sg_cases (A - B) with ⟨k, e2⟩ | ⟨k, e2⟩ | ⟨k, e2⟩
    · rw [e, e2]; rfl
    · omega
    · rw [e, e2]; rfl

/-- a number as the law builds it -/
structure Rw (p : Int × Int) : Prop where
  m : p.1.natAbs ≤ 10 ^ 10
  lo : -7 ≤ p.2
  hi : p.2 ≤ 6
theorem Rw.sm {p : Int × Int} (r : Rw p) : Sm p := by
  have := r.m
  have := r.lo
  have := r.hi
  refine ⟨?_, ?_, by omega, by omega⟩ <;> omega
theorem Rw.form {p : Int × Int} (r : Rw p) : ∃ u : Int, V p = u * 10 ^ 193 := by
  refine ⟨p.1 * 10 ^ (p.2 + 7).toNat, ?_⟩
  have := r.lo
  unfold V
  have e : (p.2 + 200).toNat = (p.2 + 7).toNat + 193 := by omega
  rw [e, Int.pow_add, Int.mul_assoc]
theorem Rw.up {p : Int × Int} (r : Rw p) : (V p).natAbs ≤ 10 ^ 216 := by
  have h1 := r.lo
  have h2 := r.hi
  rw [natAbs_V]
  have h3 : 10 ^ (p.2 + 200).toNat ≤ 10 ^ 206 := Nat.pow_le_pow_right (by decide) (by omega)
  have e : 10 ^ 216 = 10 ^ 10 * 10 ^ 206 := by rw [← Nat.pow_add]
  rw [e]
  exact Nat.mul_le_mul r.m h3
theorem dn_of {W u : Int} {k : Nat} (e : W = u * 10 ^ k) (h : W ≠ 0) : 10 ^ k ≤ W.natAbs := by
  rw [e, Int.natAbs_mul, natAbs_p10]
  have : u ≠ 0 := by rintro rfl; exact h (by rw [e, Int.zero_mul])
  exact Nat.le_mul_of_pos_left _ (by omega)
theorem gd_of {p : Int × Int} (lo : -200 ≤ p.2) {k l : Nat} (up : (V p).natAbs ≤ 10 ^ k) (hk : k ≤ 290) (dn : V p ≠ 0 → 10 ^ l ≤ (V p).natAbs) (hl : 111 ≤ l) : Gd p :=
  ⟨lo, Nat.le_trans up (Nat.pow_le_pow_right (by decide) hk), fun h => Nat.le_trans (Nat.pow_le_pow_right (by decide) hl) (dn h)⟩
theorem Rw.gd {p : Int × Int} (r : Rw p) : Gd p :=
  gd_of (by have := r.lo; omega) r.up (by decide) (fun h => by obtain ⟨u, e⟩ := r.form; exact dn_of e h) (by decide)

/-- a rounded number, as the law's second half handles it -/
structure Rd (dg : Nat) (x : Int × Int) : Prop where
  is : x = canon (V x)
  fix : rI dg (V x) = V x
  form : ∃ u : Int, V x = u * 10 ^ 193
  up : (V x).natAbs ≤ 10 ^ 216
section
variable {dg : Nat}
theorem Rd.lo {x : Int × Int} (r : Rd dg x) : -200 ≤ x.2 := by rw [r.is]; exact canon_snd_ge _
theorem Rd.lo7 {x : Int × Int} (r : Rd dg x) : -7 ≤ x.2 := by
  obtain ⟨u, e⟩ := r.form
  rw [r.is, e]
  by_cases h : u = 0
  · subst h; rw [Int.zero_mul, canon_zero]; decide
  · have := canon_scale h 193
    omega
theorem Rd.dn {x : Int × Int} (r : Rd dg x) (h : V x ≠ 0) : 10 ^ 193 ≤ (V x).natAbs := by obtain ⟨u, e⟩ := r.form; exact dn_of e h
theorem Rd.gd {x : Int × Int} (r : Rd dg x) : Gd x := gd_of r.lo r.up (by decide) r.dn (by decide)
theorem Rd.rr {x : Int × Int} (r : Rd dg x) (hd : 1 ≤ dg) : Mine.rr x.1 x.2 dg = x := by rw [r.gd.rr hd, r.fix, ← r.is]
theorem Rd.sm {x : Int × Int} (r : Rd dg x) (hd : 1 ≤ dg) (hd7 : dg ≤ 7) : Sm x := by have := r.gd.sm hd hd7; rwa [r.rr hd] at this
theorem Rd.neg {x : Int × Int} (r : Rd dg x) : Rd dg (rn x) := by
  refine ⟨?_, ?_, ?_, ?_⟩
  · rw [V_neg, canon_neg, ← r.is]
  · rw [V_neg, rI_neg, r.fix]
  · obtain ⟨u, e⟩ := r.form
    exact ⟨-u, by rw [V_neg, e, Int.neg_mul]⟩
  · rw [V_neg, Int.natAbs_neg]; exact r.up
theorem Rw.rd {p : Int × Int} (r : Rw p) (hd : 1 ≤ dg) : Rd dg (Mine.rr p.1 p.2 dg) := by
  have hV := r.gd.V hd
  refine ⟨?_, ?_, ?_, ?_⟩
  · rw [hV, r.gd.rr hd]
  · rw [hV, rI_idem hd]
  · obtain ⟨u, e⟩ := r.form
    exact ⟨rI dg u, by rw [hV, e, rI_scale hd]⟩
  · rw [hV]; exact rI_up hd r.up

theorem rounds_ok {a b : Int × Int} (ra : Rw a) (rb : Rw b) (hd : 1 ≤ dg) (hd7 : dg ≤ 7) : RoundsOk a b dg := by
  have xa := ra.rd (dg := dg) hd
  have xb := rb.rd (dg := dg) hd
  have va := ra.gd.V hd
  have vb := rb.gd.V hd
  have ca : cp a b = sg (V a - V b) := cmp_eq ra.gd.lo rb.gd.lo
  have cx : cp (rr a.1 a.2 dg) (rr b.1 b.2 dg) = sg (rI dg (V a) - rI dg (V b)) := by rw [cmp_eq xa.lo xb.lo, va, vb]
  have cy : cp (rr b.1 b.2 dg) (rr a.1 a.2 dg) = sg (rI dg (V b) - rI dg (V a)) := by rw [cmp_eq xb.lo xa.lo, va, vb]
  refine ⟨by omega, ra.sm, rb.sm, ra.gd.ok hd, rb.gd.ok hd, ra.gd.sm hd hd7, rb.gd.sm hd hd7, xa.gd.ok hd, ra.gd.neg.ok hd, ?_, ?_, ?_, ?_, ?_⟩
  · rw [ca, cx]
    exact ga_of (fun h => rI_mono hd (by omega)) (fun h => by rw [h]) (fun h => rI_mono hd (by omega))
  · rw [cx]
    have e1 : (rr a.1 a.2 dg = rr b.1 b.2 dg) ↔ (sg (rI dg (V a) - rI dg (V b)) = 0) := by
      rw [sg_zero, ra.gd.rr hd, rb.gd.rr hd]
      constructor
      · intro h; have := canon_inj h; omega
      · intro h; rw [show rI dg (V a) = rI dg (V b) by omega]
    by_cases h : rr a.1 a.2 dg = rr b.1 b.2 dg
    · rw [beq_iff_eq.mpr h, beq_iff_eq.mpr (e1.mp h)]
    · have h1 : (rr a.1 a.2 dg == rr b.1 b.2 dg) = false := beq_eq_false_iff_ne.mpr h
      have h2 : (sg (rI dg (V a) - rI dg (V b)) == 0) = false := beq_eq_false_iff_ne.mpr fun k => h (e1.mpr k)
      rw [h1, h2]
  · exact xa.rr hd
  · rw [cx, cy, ← sg_neg]
    congr 1
    omega
  · have := ra.gd.neg.rr hd
    rw [V_neg, rI_neg, canon_neg, ← ra.gd.rr hd] at this
    exact this
end
end Mine

end

/-! P5 -/
section
set_option Elab.async false
set_option linter.unusedVariables false
set_option exponentiation.threshold 2000
namespace Mine
section
variable {dg : Nat}
theorem nought_gd : Gd (0, 0) := ⟨by decide, by rw [V_zero rfl]; exact Nat.zero_le _, fun h => absurd (V_zero rfl) h⟩
theorem nought_V : V (0, 0) = 0 := V_zero rfl
/-- the sum of two rounded numbers -/
theorem Rd.ea {x y : Int × Int} (rx : Rd dg x) (ry : Rd dg y) : Gd (Mine.ea x y) := by
  have e := V_ea rx.lo ry.lo
  obtain ⟨u, hu⟩ := rx.form
  obtain ⟨v, hv⟩ := ry.form
  refine gd_of (k := 217) (l := 193) (ea_snd rx.lo ry.lo) ?_ (by decide) (fun h => ?_) (by decide)
  · rw [e]
    have h1 := rx.up
    have h2 := ry.up
    have h3 : (10 : Nat) ^ 217 = 10 ^ 216 * 10 := by rw [← Nat.pow_succ]
    rw [h3]
    generalize (10 : Nat) ^ 216 = T at h1 h2 ⊢
    omega
  · have e2 : V (Mine.ea x y) = (u + v) * 10 ^ 193 := by rw [e, hu, hv, Int.add_mul]
    exact dn_of e2 h
theorem Rd.ea0 {x : Int × Int} (rx : Rd dg x) : Gd (Mine.ea x (0, 0)) := by
  have e := V_ea rx.lo (y := (0, 0)) (by decide)
  rw [nought_V, Int.add_zero] at e
  refine gd_of (k := 216) (l := 193) (ea_snd rx.lo (by decide)) ?_ (by decide) (fun h => ?_) (by decide)
  · rw [e]; exact rx.up
  · rw [e] at h ⊢; exact rx.dn h
theorem Rd.cp {x y : Int × Int} (rx : Rd dg x) (ry : Rd dg y) : Mine.cp x y = sg (V x - V y) := cmp_eq rx.lo ry.lo

theorem sums_ok {x y z : Int × Int} (rx : Rd dg x) (ry : Rd dg y) (rz : Rd dg z) (hd : 1 ≤ dg) (hd7 : dg ≤ 7) : SumsOk x y z dg := by
  have gxy := rx.ea ry
  have gyx := ry.ea rx
  have gxy' := rx.ea ry.neg
  have gyx' := ry.ea rx.neg
  have gxz := rx.ea rz
  have gyz := ry.ea rz
  have vxy : V (ea x y) = V x + V y := V_ea rx.lo ry.lo
  have vyx : V (ea y x) = V y + V x := V_ea ry.lo rx.lo
  have vxy' : V (ea x (rn y)) = V x - V y := by rw [V_ea rx.lo ry.neg.lo, V_neg, Int.sub_eq_add_neg]
  have vyx' : V (ea y (rn x)) = V y - V x := by rw [V_ea ry.lo rx.neg.lo, V_neg, Int.sub_eq_add_neg]
  have vxz : V (ea x z) = V x + V z := V_ea rx.lo rz.lo
  have vyz : V (ea y z) = V y + V z := V_ea ry.lo rz.lo
  have sgs : ∀ {p : Int × Int}, Gd p → -200 ≤ (rr p.1 p.2 dg).2 := fun g => by rw [g.rr hd]; exact canon_snd_ge _
  refine ⟨by omega, rx.sm hd hd7, ry.sm hd hd7, rz.sm hd hd7, ⟨by decide, by decide, by decide, by decide⟩, gxy.ok hd, gxy'.ok hd, gyx.ok hd, rx.ea0.ok hd, gyx'.ok hd, gxz.ok hd, gyz.ok hd, gxy.sm hd hd7, gxy'.sm hd hd7, gxz.sm hd hd7, gyz.sm hd hd7,
    ?_, ?_, ?_, ?_, ?_, ?_⟩
  · unfold ra
    rw [gxy.rr hd, gyx.rr hd, vxy, vyx, Int.add_comm]
  · unfold ra
    rw [rx.ea0.rr hd, V_ea rx.lo (by decide), nought_V, Int.add_zero, rx.fix, ← rx.is]
  · rw [rx.cp ry]
    unfold rs
    rw [cmp_eq (sgs gxy') (by decide), gxy'.V hd, nought_V, Int.sub_zero, vxy']
    generalize V x - V y = W
    rcases sg_cases W with ⟨h, e⟩ | ⟨h, e⟩ | ⟨h, e⟩
    · subst h; rw [rI_zero]
    · rw [e]
      have h1 := rI_mono (dg := dg) hd (show (0 : Int) ≤ W by omega)
      rw [rI_zero] at h1
      have h2 : rI dg W ≠ 0 := fun h' => by have := (rI_zero_iff hd).mp h'; omega
      exact sg_pos.mpr (by omega)
    · have h1 := rI_mono (dg := dg) hd (show W ≤ 0 by omega)
      rw [rI_zero] at h1
      have h2 : rI dg W ≠ 0 := fun h' => by have := (rI_zero_iff hd).mp h'; omega
      rcases sg_cases (rI dg W) with ⟨k, e2⟩ | ⟨k, e2⟩ | ⟨k, e2⟩
      · omega
      · omega
      · rw [e, e2]
  · unfold rs
    rw [gyx'.rr hd, gxy'.rr hd, vyx', vxy', ← canon_neg, ← rI_neg]
    congr 2
    omega
  · rw [rx.cp ry]
    unfold ra
    rw [cmp_eq (sgs gxz) (sgs gyz), gxz.V hd, gyz.V hd, vxz, vyz]
    exact ga_of (fun h => rI_mono hd (by omega)) (fun h => by rw [h]) (fun h => rI_mono hd (by omega))
  · unfold ra
    rw [cmp_eq (sgs gxy) rx.lo, gxy.V hd, vxy, cmp_eq ry.lo (by decide), nought_V, Int.sub_zero]
    rcases sg_cases (V y) with ⟨h, e⟩ | ⟨h, e⟩ | ⟨h, e⟩
    · rw [e, Int.mul_zero]; exact Int.le_refl _
    · have h1 := rI_mono (dg := dg) hd (show V x ≤ V x + V y by omega)
      rw [rx.fix] at h1
      rw [e, Int.mul_one]
      rcases sg_cases (rI dg (V x + V y) - V x) with ⟨k, e2⟩ | ⟨k, e2⟩ | ⟨k, e2⟩ <;> omega
    · have h1 := rI_mono (dg := dg) hd (show V x + V y ≤ V x by omega)
      rw [rx.fix] at h1
      rw [e]
      rcases sg_cases (rI dg (V x + V y) - V x) with ⟨k, e2⟩ | ⟨k, e2⟩ | ⟨k, e2⟩ <;> rw [e2] <;> omega

/-- the product of two rounded numbers -/
theorem Rd.em {x y : Int × Int} (rx : Rd dg x) (ry : Rd dg y) : Gd (Mine.em x y) := by
  have l1 := rx.lo7
  have l2 := ry.lo7
  have e := V_em rx.lo ry.lo (by omega)
  have lo : -14 ≤ (Mine.em x y).2 := by show -14 ≤ x.2 + y.2; omega
  refine gd_of (k := 232) (l := 186) (by omega) ?_ (by decide) (fun h => ?_) (by decide)
  · have h1 : (V (Mine.em x y)).natAbs * 10 ^ 200 = (V x).natAbs * (V y).natAbs := by
      rw [← Int.natAbs_mul, ← e, Int.natAbs_mul, natAbs_p10]
    have h2 : (V x).natAbs * (V y).natAbs ≤ 10 ^ 216 * 10 ^ 216 := Nat.mul_le_mul rx.up ry.up
    rw [← h1, ← Nat.pow_add] at h2
    have h3 : (10 : Nat) ^ (216 + 216) = 10 ^ 232 * 10 ^ 200 := by rw [← Nat.pow_add]
    rw [h3] at h2
    exact Nat.le_of_mul_le_mul_right h2 (Nat.pow_pos (by decide))
  · rw [natAbs_V]
    have h1 : (Mine.em x y).1 ≠ 0 := fun h' => h (V_zero h')
    have h2 : 10 ^ 186 ≤ 10 ^ ((Mine.em x y).2 + 200).toNat := Nat.pow_le_pow_right (by decide) (by omega)
    exact Nat.le_trans h2 (Nat.le_mul_of_pos_left _ (by omega))
theorem em_comm (x y : Int × Int) : em x y = em y x := by unfold em; rw [Int.mul_comm, Int.add_comm]
theorem em_one (x : Int × Int) : em x (1, 0) = x := by unfold em; simp
theorem em_neg (x y : Int × Int) : em (rn x) y = rn (em x y) := by unfold em rn; simp [Int.neg_mul]
theorem cd_small {n : Int} {k : Nat} (h : n.natAbs < 10 ^ k) : cd n ≤ k := by have := ndN_lt h; unfold cd; omega
theorem cd_one' : cd 1 = 1 := by
  unfold cd
  have : ndN (Int.natAbs 1) = 0 + 1 := ndN_eq (by decide) (by decide)
  rw [this]; rfl
theorem Rd.cd {x : Int × Int} (r : Rd dg x) (hd7 : dg ≤ 7) : cd x.1 ≤ 8 := by
  refine cd_small (k := 8) ?_
  rw [r.is, ← r.fix]
  exact Nat.lt_of_le_of_lt (Nat.le_trans (canon_small _) (Nat.pow_le_pow_right (by decide) hd7)) (by decide)

/-- a quotient by one -/
theorem qt_one {x : Int × Int} (r : Rd dg x) (hd7 : dg ≤ 7) : V (qt x.1 1 (x.2 - 0) dg) = V x ∧ -200 ≤ (qt x.1 1 (x.2 - 0) dg).2 := by
  have l1 := r.lo7
  have c1 := cd_nonneg x.1
  have b1 := hi0_ge (dg + 2 + cd 1 - cd x.1)
  have b2 : hi0 (dg + 2 + cd 1 - cd x.1) ≤ 10 := hi0_le (by rw [cd_one']; omega) (by decide)
  unfold qt
  dsimp only
  generalize hi0 (dg + 2 + cd 1 - cd x.1) = sh at b1 b2 ⊢
  have hq : qk x.1 1 sh = 10 * (ab x.1 * 10 ^ sh.toNat) := by
    unfold qk
    have : ab 1 = 1 := rfl
    rw [this, Int.ediv_one, Int.emod_one, if_pos rfl, Int.add_zero]
  have hm : (if decide (x.1 < 0) != decide ((1 : Int) < 0) then -qk x.1 1 sh else qk x.1 1 sh) = x.1 * 10 ^ (sh.toNat + 1) := by
    rw [hq, Int.pow_succ]
    by_cases h : x.1 < 0
    · rw [decide_eq_true h, if_pos (by decide)]
      have : ab x.1 = -x.1 := by unfold ab; rw [if_pos h]
      rw [this, Int.neg_mul, Int.mul_neg, Int.neg_neg]
      simp only [Int.mul_assoc, Int.mul_comm, Int.mul_left_comm]
    · rw [decide_eq_false h, if_neg (by decide)]
      have : ab x.1 = x.1 := by unfold ab; rw [if_neg h]
      rw [this]
      simp only [Int.mul_assoc, Int.mul_comm, Int.mul_left_comm]
  rw [hm]
  refine ⟨?_, by first | omega | (dsimp only; omega)⟩
  unfold V
  dsimp only
  rw [Int.mul_assoc, ← Int.pow_add]
  congr 2
  omega
/-- a quotient by itself -/
theorem qt_self {x : Int × Int} (h0 : x.1 ≠ 0) (hd7 : dg ≤ 7) : V (qt x.1 x.1 (x.2 - x.2) dg) = 10 ^ 200 ∧ -200 ≤ (qt x.1 x.1 (x.2 - x.2) dg).2 := by
  have b1 : hi0 (dg + 2 + cd x.1 - cd x.1) = dg + 2 := by unfold hi0; split <;> omega
  unfold qt
  dsimp only
  rw [b1]
  have ha := ab_pos h0
  have hq : qk x.1 x.1 ((dg : Int) + 2) = 10 ^ (dg + 3) := by
    unfold qk
    have e : ((dg : Int) + 2).toNat = dg + 2 := by omega
    rw [e, Int.mul_ediv_cancel_left _ (by omega), Int.mul_emod_right, if_pos rfl, Int.add_zero, Int.pow_succ 10 (dg + 2), Int.mul_comm]
  rw [hq]
  have hb : (decide (x.1 < 0) != decide (x.1 < 0)) = false := by simp
  rw [hb]
  refine ⟨?_, by first | omega | (dsimp only; omega)⟩
  unfold V
  dsimp only
  rw [if_neg (by decide), ← Int.pow_add]
  congr 1
  omega
end
end Mine

end

/-! P6 -/
section
set_option Elab.async false
set_option linter.unusedVariables false
set_option exponentiation.threshold 2000
namespace Mine
section
variable {dg : Nat}
theorem cp_nought {z : Int × Int} (r : Rd dg z) : cp z (0, 0) = sg (V z) := by
  rw [cmp_eq r.lo (by decide), nought_V, Int.sub_zero]
theorem mag_rd {z : Int × Int} (r : Rd dg z) : Rd dg (mag z) ∧ 0 ≤ V (mag z) := by
  unfold mag
  rw [cp_nought r]
  rcases sg_cases (V z) with ⟨h, e⟩ | ⟨h, e⟩ | ⟨h, e⟩
  · rw [e, if_pos (by decide)]; exact ⟨r, by omega⟩
  · rw [e, if_pos (by decide)]; exact ⟨r, by omega⟩
  · rw [e, if_neg (by decide)]; exact ⟨r.neg, by rw [V_neg]; omega⟩
theorem em_le {x y z : Int × Int} (rx : Rd dg x) (ry : Rd dg y) (rz : Rd dg z) (hz : 0 ≤ V z) (h : V x ≤ V y) : V (em x z) ≤ V (em y z) := by
  have l1 := rx.lo7
  have l2 := ry.lo7
  have l3 := rz.lo7
  have e1 := V_em rx.lo rz.lo (by omega)
  have e2 := V_em ry.lo rz.lo (by omega)
  have e3 : V x * V z ≤ V y * V z := Int.mul_le_mul_of_nonneg_right h hz
  rw [← e1, ← e2] at e3
  exact Int.le_of_mul_le_mul_right e3 (p10 200)
theorem canon_unit : canon (10 ^ 200) = (1, 0) := by
  have h : (10 : Int) ^ 200 = 1 * 10 ^ 200 := by rw [Int.one_mul]
  rw [h]
  unfold canon
  rw [sz_scale 1 (-200) (by decide) 200]
  exact sz_stop (by decide) (by decide)
theorem Rd.zero {x : Int × Int} (r : Rd dg x) (h : x.1 = 0) : x = (0, 0) := by rw [r.is, V_zero h, canon_zero]

theorem prods_ok {x y z : Int × Int} (rx : Rd dg x) (ry : Rd dg y) (rz : Rd dg z) (hd : 1 ≤ dg) (hd7 : dg ≤ 7) : ProdsOk x y z dg := by
  obtain ⟨rm', hm⟩ := mag_rd rz
  have gxy := rx.em ry
  have gyx := ry.em rx
  have gnxy := rx.neg.em ry
  have gxm := rx.em rm'
  have gym := ry.em rm'
  have q1 := qt_one rx hd7
  have gq1 : Gd (qt x.1 1 (x.2 - 0) dg) := gd_of (k := 216) (l := 193) q1.2 (by rw [q1.1]; exact rx.up) (by decide) (fun h => by rw [q1.1] at h ⊢; exact rx.dn h) (by decide)
  have gqx : x.1 ≠ 0 → Gd (qt x.1 x.1 (x.2 - x.2) dg) := fun h =>
    have q := qt_self (dg := dg) h hd7
    gd_of (k := 200) (l := 200) q.2 (by rw [q.1, natAbs_p10]; exact Nat.le_refl _) (by decide) (fun _ => by rw [q.1, natAbs_p10]; exact Nat.le_refl _) (by decide)
  have c1 := cd_one'
  have cx := rx.cd hd7
  have sgs : ∀ {p : Int × Int}, Gd p → -200 ≤ (rr p.1 p.2 dg).2 := fun g => by rw [g.rr hd]; exact canon_snd_ge _
  refine ⟨by omega, rx.sm hd hd7, ry.sm hd hd7, rz.sm hd hd7, ⟨by decide, by decide, by decide, by decide⟩, ⟨by decide, by decide, by decide, by decide⟩,
    gxy.ok hd, gyx.ok hd, by rw [em_one]; exact rx.gd.ok hd, gnxy.ok hd, rm'.sm hd hd7, gxm.ok hd, gym.ok hd, gxm.sm hd hd7, gym.sm hd hd7,
    by dsimp only; omega, by omega, gq1.ok hd, fun h => (gqx h).ok hd, ?_, ?_, ?_, ?_, ?_, ?_, rx.zero⟩
  · unfold rm; rw [em_comm]
  · unfold rm; rw [em_one]; exact rx.rr hd
  · unfold rm
    have h1 : V (em (rn x) y) = -V (em x y) := by rw [em_neg, V_neg]
    rw [gnxy.rr hd, gxy.rr hd, h1, rI_neg, canon_neg]
  · unfold rv
    dsimp only
    rw [gq1.rr hd, q1.1, rx.fix, ← rx.is]
  · rw [rx.cp ry]
    unfold rm
    rw [cmp_eq (sgs gxm) (sgs gym), gxm.V hd, gym.V hd]
    exact ga_of (fun h => rI_mono hd (em_le rx ry rm' hm (by omega))) (fun h => by
      have a := em_le rx ry rm' hm (by omega)
      have b := em_le ry rx rm' hm (by omega)
      rw [show V (em x (mag z)) = V (em y (mag z)) by omega]) (fun h => rI_mono hd (em_le ry rx rm' hm (by omega)))
  · intro h
    unfold rv
    have q := qt_self (dg := dg) h hd7
    rw [(gqx h).rr hd, q.1, rI_p10 hd, canon_unit]

/-- the order of three rounded numbers is not broken -/
theorem order_ok {x y z : Int × Int} (rx : Rd dg x) (ry : Rd dg y) (rz : Rd dg z) : (decide (cp x y ≤ 0) && (decide (cp y z ≤ 0) && decide (0 < cp x z))) = false := by
  rw [rx.cp ry, ry.cp rz, rx.cp rz]
  rcases sg_cases (V x - V y) with ⟨h, e⟩ | ⟨h, e⟩ | ⟨h, e⟩ <;> rcases sg_cases (V y - V z) with ⟨h2, e2⟩ | ⟨h2, e2⟩ | ⟨h2, e2⟩ <;> rcases sg_cases (V x - V z) with ⟨h3, e3⟩ | ⟨h3, e3⟩ | ⟨h3, e3⟩ <;> rw [e, e2, e3] <;> first | decide | omega
end
end Mine

end

/-! Q1 -/
section
open PySem PySem.W PySem.Calls PyProof.Rows
set_option Elab.async false
set_option linter.unusedVariables false
set_option linter.unusedSectionVars false
namespace Mine
section
variable {w : World}

theorem con_rounds (a b : Int × Int) (dg : Int) (H : RoundsOk a b dg) : Con w 168 4 [.pair a, .pair b, .int dg] (Is (.bool true)) := by
  refine Con.of (names := ["a", "b", "digits"]) (body := bodyAt 25) (o := oAt w 168) (fd := fAt w 168) (by rfl) (by rfl) (by rfl) (by rfl) rfl ?_ (by rfl) (by rfl) (by rfl) (by rfl) (by rfl) ?_
  · intro vs hv
    match vs, hv with
    | [a, b, c], _ => rfl
  · intro A h₀ L r
    exact body_rounds_right ⟨by rfl, by rfl, by rfl, by rfl⟩ (by rfl) (by rfl) (by rfl) (by rfl) (by rfl) (by rfl) (by rfl) (by rfl) (by rfl) (by rfl) a b dg H r
theorem at_rounds : At w "_law_rounds_right" 168 := ⟨by rfl, ⟨oAt w 168, fAt w 168, by rfl, by rfl⟩, by decide⟩

theorem con_sums (x y z : Int × Int) (dg : Int) (H : SumsOk x y z dg) : Con w 175 5 [.pair x, .pair y, .pair z, .int dg] (Is (.bool true)) := by
  refine Con.of (names := ["x", "y", "z", "digits"]) (body := bodyAt 26) (o := oAt w 175) (fd := fAt w 175) (by rfl) (by rfl) (by rfl) (by rfl) rfl ?_ (by rfl) (by rfl) (by rfl) (by rfl) (by rfl) ?_
  · intro vs hv
    match vs, hv with
    | [a, b, c, d], _ => rfl
  · intro A h₀ L r
    exact body_sums_right ⟨by rfl, by rfl, by rfl, by rfl⟩ (by rfl) (by rfl) (by rfl) (by rfl) (by rfl) (by rfl) (by rfl) (by rfl) (by rfl) (by rfl) (by rfl) (by rfl) (by rfl) x y z dg H r
theorem at_sums : At w "_law_sums_right" 175 := ⟨by rfl, ⟨oAt w 175, fAt w 175, by rfl, by rfl⟩, by decide⟩


/-- what a call of _law_products_right gives: it catches what it raises, so older frames keep their slots alone -/
theorem con_prods {A : Around} {s : Shared} {vs : List Value} {Q E : Value → Shared → Prop} (r : Rm A 5) {base : Heap} {outer : List Env} (gb : Gl w base) (hb : HLe base s.heap) (hsz : base.objs.size ≤ s.heap.objs.size) (hfr : A.frames = some outer)
    (hff : s.heap.FunFrames base outer) (x y z : Int × Int) (dg : Int) (H : ProdsOk x y z dg) (t : Tys s.heap vs [.pair x, .pair y, .pair z, .int dg])
    (q : ∀ h' tk', HLe base h' → Q (.bool true) { s with heap := h', toks := tk' }) :
    wpAny (model PR w) A (PySem.call (.ref 182) vs) Q E s := by
  have g := gb.keeps hb
  obtain ⟨X, mean, mg, mb, T⟩ := id g
  refine wpAny_call (codeAny_call_def (o := oAt w 182) (fd := fAt w 182) (body := bodyAt 27) (binds := (["x", "y", "z", "digits"] : List Str).zip vs) (by have := r.hd; omega) (X _ _ (by rfl)) (by rfl) T.nolimit (codeRec_of X (by rfl)) (by rfl)
    (BindsTo.of_eq ?_) ?_ ?_ (fun h₁ hns hk₁ => ?_) (by rfl) (by rfl) (by rfl))
  · match vs, t.len with
    | [a, b, c, d], _ => rfl
  · intro z hz
    have := List.all_eq_true.mp (show ((fAt w 182).scope.names.all fun x => !decide (x.2 = .cell)) = true by rfl) z hz
    simpa using this
  · intro z hz
    have := List.all_eq_true.mp (show ((["x", "y", "z", "digits"] : List Str).all fun x => decide ((fAt w 182).scope.names.lookup x = some .local)) = true by rfl) z.1 (List.of_mem_zip (a := z.1) (b := z.2) hz).1
    exact of_decide_eq_true this
  have F : Fn (callEnv (fAt w 182) s.heap.objs.size 182) s.heap.objs.size := ⟨by rfl, by rfl, by rfl, by rfl⟩
  have hlook := lk_rev ["x", "y", "z", "digits"] vs [.pair x, .pair y, .pair z, .int dg] [] [] (t.mono hk₁) rfl (fun _ _ e => by cases e)
  have c : Cx w s.heap s.heap.objs.size ((["x", "y", "z", "digits"] : List Str).zip [D.pair x, D.pair y, D.pair z, D.int dg]).reverse h₁ := ⟨g, hk₁, Nat.le_refl _, _, hns, hlook⟩
  refine body_products_right (A := A.deeper (callEnv (fAt w 182) s.heap.objs.size 182)) (outer := outer) F (by rfl) (by rfl) (by rfl) (by rfl) (by rfl) (by rfl) (by rfl) (by rfl) (by rfl) (by rfl) (by rfl) (by rfl) (by rfl) (by rfl) (by rfl) (by rfl) (by rfl) x y z dg H r.deeper gb hb (hsz) (Around.frames_deeper hfr) hff _ _ _ c ?_
  intro v h' tk' l t'
  cases t'
  exact q h' tk' l
end
end Mine

end

/-! G1 -/
section
open PySem PySem.W PySem.Calls PyProof.Rows
set_option Elab.async false
set_option linter.unusedVariables false
set_option linter.unusedSectionVars false
namespace Mine
def HBut (B : Addr) (h h' : Heap) : Prop := ∀ b o, b ≠ B → h.get? b = some o → h'.get? b = some o
theorem HBut.refl {B : Addr} {h : Heap} : HBut B h h := fun _ _ _ e => e
theorem HBut.trans {B : Addr} {a b c : Heap} (x : HBut B a b) (y : HBut B b c) : HBut B a c := fun z o n e => y z o n (x z o n e)
theorem HLe.but {B : Addr} {h h' : Heap} (x : HLe h h') : HBut B h h' := fun b o _ e => x b o e
theorem HBut.of {B : Addr} {h h' : Heap} (x : Heap.SameBut B h h') : HBut B h h' := fun b o n e => (x.2 b n).trans e
theorem HBut.le {B : Addr} {base h h' : Heap} (x : HBut B h h') (hb : HLe base h) (hB : base.get? B = none) : HLe base h' := fun b o e => x b o (by rintro rfl; rw [hB] at e; cases e) (hb b o e)

theorem isList_mono {h h' : Heap} {a : Addr} {i : Array Value} (x : h.IsList a i) (k : HLe h h') : h'.IsList a i := let ⟨o, e, r⟩ := x; ⟨o, k _ _ e, r⟩
theorem isList_but {B : Addr} {h h' : Heap} {a : Addr} {i : Array Value} (x : h.IsList a i) (k : HBut B h h') (n : a ≠ B) : h'.IsList a i := let ⟨o, e, r⟩ := x; ⟨o, k _ _ n e, r⟩

/-- the bag: the script's first part and a count -/
structure Bag (h : Heap) (B l : Addr) (js : List Int) (k : Nat) : Prop where
  hb : ∃ t, h.IsList B #[.ref l, .int k t]
  hl : ∃ vs : List Value, h.IsList l vs.toArray ∧ IntsAre vs js
  ne : l ≠ B
theorem Bag.mono {h h' : Heap} {B l : Addr} {js : List Int} {k : Nat} (x : Bag h B l js k) (le : HLe h h') : Bag h' B l js k :=
  let ⟨⟨t, b⟩, ⟨vs, c, d⟩, e⟩ := x; ⟨⟨t, isList_mono b le⟩, ⟨vs, isList_mono c le, d⟩, e⟩
theorem Ty.but {h h' : Heap} {v : Value} {d : D} {B : Addr} {a b : Value} (x : Ty h v d) (hl : h.IsList B #[a, b]) (k : HBut B h h') : Ty h' v d := by
  obtain ⟨ob, eb, cb, nb, db⟩ := hl
  induction x with
  | int i t => exact .int i t
  | bool b => exact .bool b
  | pair' e c d =>
    refine .pair' (k _ _ ?_ e) c d
    rintro rfl
    rw [e] at eb; cases eb
    rw [c] at cb
    injection cb with cb
    exact absurd cb (by decide)
  | rows e c d _ _ _ i1 i2 i3 =>
    refine .rows (k _ _ ?_ e) c d i1 i2 i3
    rintro rfl
    rw [e] at eb; cases eb
    rw [d] at db
    injection db with db
    exact absurd (congrArg Array.size db) (by simp)
  | adr a => exact .adr a
section
variable {w : World} {A : Around} {C C' : Heap → Prop} {h₀ base : Heap} {L : Addr} {Γ : Vars} {env : Env}
theorem Cx.but {h h' : Heap} {B : Addr} {a b : Value} (c : Cx w base L Γ h) (hl : h.IsList B #[a, b]) (hB : base.get? B = none) (k : HBut B h h') : Cx w base L Γ h' := by
  obtain ⟨m, n, p⟩ := c.hv
  refine ⟨c.g, k.le c.le hB, c.above, m, ?_, fun x d e => let ⟨v, y, z⟩ := p x d e; ⟨v, y, z.but hl k⟩⟩
  obtain ⟨o, es, ep, ho, hd, r⟩ := n
  refine ⟨o, es, ep, k _ _ ?_ ho, hd, r⟩
  rintro rfl
  obtain ⟨ob, eb, cb, nb, db⟩ := hl
  rw [ho] at eb; cases eb
  rw [hd] at db; cases db
theorem Ev.of {t : Sem Value} {R : Heap → Value → Prop} (k : ∀ h, C' h → C h) (h : Ev w A C t R) : Ev w A C' t R := fun s Q E c q => h s Q E (k _ c) q

/-- a frame over a bag -/
structure Bx (w : World) (base : Heap) (L : Addr) (Γ : Vars) (B l : Addr) (js : List Int) (k : Nat) (h : Heap) : Prop where
  c : Cx w base L Γ h
  b : Bag h B l js k
theorem Bx.Mono {B l : Addr} {js : List Int} {k : Nat} : Mono (Bx w base L Γ B l js k) := fun x le => ⟨x.c.mono le, x.b.mono le⟩

section
variable {B l : Addr} {js : List Int} {k : Nat}
theorem Ev.bag1 {j : Nat} {p1 p2 p3 : Pos} (h : Ev w A (Bx w base L Γ B l js k) (eval (.Name "bag" p1) env) (Is (.adr B))) (hk : k < 100) :
    Ev w A (Bx w base L Γ B l js k) (eval (.Subscript (.Name "bag" p1) (.Constant (.int 1) j p2) p3) env) (Is (.int k)) :=
  fun s Q E c q => Subscript_ (h s _ _ c fun v h' tk' le r => wpAny_Constant_int (by
    cases r
    obtain ⟨t, hb⟩ := (c.b.mono le).hb
    exact item_list hb (by decide) (by decide) (x := .int k t) rfl (q _ h' _ le (.int _ _))))
theorem Ev.bag0 {j : Nat} {p1 p2 p3 : Pos} (h : Ev w A (Bx w base L Γ B l js k) (eval (.Name "bag" p1) env) (Is (.adr B))) :
    Ev w A (Bx w base L Γ B l js k) (eval (.Subscript (.Name "bag" p1) (.Constant (.int 0) j p2) p3) env) (Is (.adr l)) :=
  fun s Q E c q => Subscript_ (h s _ _ c fun v h' tk' le r => wpAny_Constant_int (by
    cases r
    obtain ⟨t, hb⟩ := (c.b.mono le).hb
    exact item_list hb (by decide) (by decide) (x := .ref l) rfl (q _ h' _ le (.adr _))))
theorem Ev.bagItem {o e : Expr} {p : Pos} {i : Int} {j : Nat} {p1 p2 p3 : Pos} (ho : o = .Subscript (.Name "bag" p1) (.Constant (.int 0) j p2) p3)
    (h : Ev w A (Bx w base L Γ B l js k) (eval o env) (Is (.adr l))) (h' : Ev w A (Bx w base L Γ B l js k) (eval e env) (Is (.int i)))
    (h0 : 0 ≤ i) (h1 : i < js.length) (h20 : js.length ≤ 20) (hs : ∀ u, subscripted e false (.ref l) (.int i u) = operate [.ref l, .int i u] (getItem (.ref l) (.int i u))) :
    Ev w A (Bx w base L Γ B l js k) (eval (.Subscript o e p) env) (Is (.int (js.getD i.toNat 0))) :=
  fun s Q E c q => Subscript_ (h s _ _ c fun v h1' tk' le r => h' _ _ _ (Bx.Mono c le) fun v2 h2 tk2 le2 r2 => by
    cases r
    cases r2 with
    | int i u =>
    obtain ⟨vs, hl, hi⟩ := (c.b.mono (le.trans le2)).hl
    obtain ⟨t, hx⟩ := hi.get i.toNat _ (ints_getD h0 h1)
    subst ho
    exact item_listR hl h0 (by omega) (by simpa using hx) (q _ h2 _ (le.trans le2) (.int _ _)) (hs u))
theorem op_len {s : Shared} {vs : List Value} {Q E : Value → Shared → Prop} (bg : Bag s.heap B l js k) (h20 : js.length ≤ 20) (hx : Tys s.heap vs [.adr l]) (q : ∀ v h' tk', HLe s.heap h' → Ty h' v (.int js.length) → Q v { s with heap := h', toks := tk' }) :
    wpAny (model PR w) A (PySem.call (.builtin "len") vs) Q E s := by
  match vs, hx with
  | [_], ⟨h₁, _⟩ =>
    cases h₁
    obtain ⟨us, hl, hi⟩ := bg.hl
    have hz : us.length = js.length := hi.length
    refine call_len_list hl (by rw [List.size_toArray]; omega) ?_
    refine q _ s.heap _ .refl ?_
    rw [List.size_toArray, hz]
    exact .int _ _
theorem Ev.bagLen {p1 p2 : Pos} {o : Expr} (F : Fn env L) (kl : env.kindOf "len" = some .globalImplicit) (h20 : js.length ≤ 20) (h : Ev w A (Bx w base L Γ B l js k) (eval o env) (Is (.adr l)))
    (he : starEach [o] env = (false, eval o env) :: starEach [] env := by rfl) :
    Ev w A (Bx w base L Γ B l js k) (eval (.Call (.Name "len" p1) [o] [] p2) env) (Is (.int js.length)) :=
  fun s Q E c q => Call_ ((Ev.boot (w := w) (A := A) (h₀ := base) (L := L) (Γ := Γ) (v := .builtin "len") (by rfl) (by rfl) (by decide) F.hk kl F.hg F.hb (by decide)) s _ _ c.c fun v h' tk' le hv => by
    subst hv
    exact PyProof.Rows.callWith_builtin1 (EvL.cons Bx.Mono h EvL.nil he _ _ _ (Bx.Mono c le) fun vs h2 tk2 le2 r2 => op_len ((c.b.mono le).mono le2) h20 r2 fun u h3 tk3 le3 r3 => q u h3 tk3 (le.trans (le2.trans le3)) r3) he (by rfl))
end
end
end Mine

end

/-! G2 -/
section
open PySem PySem.W PySem.Calls PyProof.Rows
set_option Elab.async false
set_option linter.unusedVariables false
set_option linter.unusedSectionVars false
namespace Mine
section
variable {w : World} {A : Around} {base : Heap} {L : Addr} {env : Env} {E : Value → Shared → Prop} {s : Shared}
/-- the count goes up by one -/
theorem bag_up {B l : Addr} {js : List Int} {k : Nat} {Γ : Vars} {p1 p2 p3 p4 p5 : Pos} {j j' : Nat} {Q : Flow → Shared → Prop} (hB : base.get? B = none) (F : Fn env L)
    (h : Ev w A (Bx w base L Γ B l js k) (eval (.Name "bag" p1) env) (Is (.adr B))) (c : Bx w base L Γ B l js k s.heap) (hk : k < 100)
    (q : ∀ h' tk', HBut B s.heap h' → Bx w base L Γ B l js (k + 1) h' → Q .next { s with heap := h', toks := tk' }) :
    wpAny (model PR w) A (exec (.AugAssign (.Subscript (.Name "bag" p1) (.Constant (.int 1) j p2) p3) .Add (.Constant (.int 1) j' p4) p5) env) Q E s := by
  refine wpAny_AugAssign_SubscriptAny (h s _ _ c fun v h' tk' le r => ?_)
  cases r
  obtain ⟨t, hb⟩ := (c.b.mono le).hb
  refine wpAny_Constant_int (wpAny_getItem_list hb (by decide) (by decide) (x := .int k t) rfl (wpAny_Constant_int (iadd_int (wpAny_setItem_list hb (by decide) (by decide) (by simp) fun h2 hl2 sb => ?_))))
  refine q h2 _ (le.but.trans (.of sb)) ⟨(c.c.mono le).but hb hB (.of sb), ⟨⟨_, hl2⟩, ?_, c.b.ne⟩⟩
  obtain ⟨vs, x, y⟩ := (c.b.mono le).hl
  exact ⟨vs, isList_but x (.of sb) c.b.ne, y⟩

/-- what a call of _law_grain gives -/
theorem con_grain {vs : List Value} {Q : Value → Shared → Prop} (r : Rm A 1) (gb : Gl w base) (hbs : HLe base s.heap) (hsz : base.objs.size ≤ s.heap.objs.size) {B l : Addr} {js : List Int} {k : Nat} {many : Int}
    (hB : base.get? B = none) (bg : Bag s.heap B l js k) (hm : 0 < many) (hk : k < 99) (h20 : js.length ≤ 20) (t : Tys s.heap vs [.adr B, .int many])
    (q : ∀ g u h' tk', 0 ≤ g → g < many → HBut B s.heap h' → Bag h' B l js (k + 1) → Q (.int g u) { s with heap := h', toks := tk' }) :
    wpAny (model PR w) A (PySem.call (.ref 147) vs) Q E s := by
  have g := gb.keeps hbs
  obtain ⟨X, mean, mg, mb, T⟩ := id g
  refine wpAny_call (codeAny_call_def (o := oAt w 147) (fd := fAt w 147) (body := bodyAt 22) (binds := (["bag", "many"] : List Str).zip vs) (by have := r.hd; omega) (X _ _ (by rfl)) (by rfl) T.nolimit (codeRec_of X (by rfl)) (by rfl)
    (BindsTo.of_eq ?_) ?_ ?_ (fun h₁ hns hk₁ => ?_) (by rfl) (by rfl) (by rfl))
  · match vs, t.len with
    | [a, b], _ => rfl
  · intro z hz
    have := List.all_eq_true.mp (show ((fAt w 147).scope.names.all fun x => !decide (x.2 = .cell)) = true by rfl) z hz
    simpa using this
  · intro z hz
    have := List.all_eq_true.mp (show ((["bag", "many"] : List Str).all fun x => decide ((fAt w 147).scope.names.lookup x = some .local)) = true by rfl) z.1 (List.of_mem_zip (a := z.1) (b := z.2) hz).1
    exact of_decide_eq_true this
  have F : Fn (callEnv (fAt w 147) s.heap.objs.size 147) s.heap.objs.size := ⟨by rfl, by rfl, by rfl, by rfl⟩
  have k1 : (callEnv (fAt w 147) s.heap.objs.size 147).kindOf "bag" = some .local := by rfl
  have k2 : (callEnv (fAt w 147) s.heap.objs.size 147).kindOf "many" = some .local := by rfl
  have kL : (callEnv (fAt w 147) s.heap.objs.size 147).kindOf "len" = some .globalImplicit := by rfl
  generalize callEnv (fAt w 147) s.heap.objs.size 147 = env at F k1 k2 kL ⊢
  have hlook := lk_rev ["bag", "many"] vs [.adr B, .int many] [] [] (t.mono hk₁) rfl (fun _ _ e => by cases e)
  have c : Bx w base s.heap.objs.size ((["bag", "many"] : List Str).zip [D.adr B, D.int many]).reverse B l js k h₁ := ⟨⟨gb, HLe.trans hbs hk₁, hsz, _, hns, hlook⟩, bg.mono hk₁⟩
  have bag : ∀ {j p} , Ev w (A.deeper env) (Bx w base s.heap.objs.size [("many", .int many), ("bag", .adr B)] B l js j) (eval (.Name "bag" p) env) (Is (.adr B)) := fun {j p} => Ev.of (C := Cx w base s.heap.objs.size [("many", .int many), ("bag", .adr B)]) (fun _ x => x.c) (Ev.var F k1)
  have mny : ∀ {j p} , Ev w (A.deeper env) (Bx w base s.heap.objs.size [("many", .int many), ("bag", .adr B)] B l js j) (eval (.Name "many" p) env) (Is (.int many)) := fun {j p} => Ev.of (C := Cx w base s.heap.objs.size [("many", .int many), ("bag", .adr B)]) (fun _ x => x.c) (Ev.var F k2)
  refine wpAny_execs_cons (bag_up hB F bag c (by omega) fun h2 tk2 b2 c2 => ?_)
  have b02 : HBut B s.heap h2 := (HLe.but hk₁).trans b2
  refine wpAny_execs_cons (wpAny_If ((EvB.cmp Bx.Mono (Ev.bag1 bag (by omega)) (Ev.bagLen F kL h20 (Ev.bag0 bag)) (fun s a b Q E => cp_le)) _ _ _ c2 fun h3 tk3 l3 => ?_))
  have c3 := Bx.Mono c2 l3
  by_cases hle : ((k + 1 : Nat) : Int) ≤ js.length
  · rw [decide_eq_true hle]
    refine wpAny_execs_cons (wpAny_Return_some ((Ev.two Bx.Mono (Ev.bagItem rfl (Ev.bag0 bag) (Ev.two Bx.Mono (Ev.bag1 bag (by omega)) Ev.int (fun s a b Q E => op_sub)) (by omega) (by omega) h20 (fun u => by with_unfolding_all rfl)) mny (fun s a b Q E => op_mod hm)) _ _ _ c3 fun v h4 tk4 l4 r4 => ?_))
    cases r4
    exact q _ _ h4 tk4 (Int.emod_nonneg _ (by omega)) (Int.emod_lt_of_pos _ hm) (b02.trans (l3.but.trans (HLe.but l4))) (Bx.Mono c3 l4).b
  · rw [decide_eq_false hle]
    refine wpAny_execs_nil ?_
    refine wpAny_execs_cons (wpAny_Return_some ((Ev.two Bx.Mono (Ev.two Bx.Mono (Ev.two Bx.Mono (Ev.two Bx.Mono Ev.int (Ev.bag1 bag (by omega)) (fun s a b Q E => op_mul (IntMulOk.of_left (by decide)))) (Ev.bag1 bag (by omega)) (fun s a b Q E => op_mul (IntMulOk.of_left (intBits_le_64 (by omega) (by omega))))) Ev.int (fun s a b Q E => op_add)) mny (fun s a b Q E => op_mod hm)) _ _ _ c3 fun v h4 tk4 l4 r4 => ?_))
    cases r4
    exact q _ _ h4 tk4 (Int.emod_nonneg _ (by omega)) (Int.emod_lt_of_pos _ hm) (b02.trans (l3.but.trans (HLe.but l4))) (Bx.Mono c3 l4).b
theorem at_grain : At w "_law_grain" 147 := ⟨by rfl, ⟨oAt w 147, fAt w 147, by rfl, by rfl⟩, by decide⟩
end
end Mine

end

/-! G3 -/
section
open PySem PySem.W PySem.Calls PyProof.Rows
set_option Elab.async false
set_option linter.unusedVariables false
set_option linter.unusedSectionVars false
namespace Mine
/-- what _law_long makes -/
structure Lw (p : Int × Int) : Prop where
  m : p.1.natAbs ≤ 10 ^ 9
  lo : -6 ≤ p.2
  hi : p.2 ≤ 6
theorem Lw.rw {p : Int × Int} (x : Lw p) : Rw p := ⟨Nat.le_trans x.m (by decide), by have := x.lo; omega, x.hi⟩
theorem Lw.ten {p : Int × Int} (x : Lw p) : Rw (p.1 * 10, p.2 - 1) := by
  have h1 := x.m
  have h2 := x.lo
  have h3 := x.hi
  have e1 : (10 : Nat) ^ 9 = 1000000000 := by decide
  have e2 : (10 : Nat) ^ 10 = 10000000000 := by decide
  refine ⟨?_, ?_, ?_⟩
  · show (p.1 * 10).natAbs ≤ _; omega
  · show -7 ≤ p.2 - 1; omega
  · show p.2 - 1 ≤ 6; omega
section
variable {w : World} {A : Around} {base : Heap} {L : Addr} {env : Env} {E : Value → Shared → Prop} {s : Shared}
theorem Cx.size {Γ : Vars} {h : Heap} (c : Cx w base L Γ h) : base.objs.size ≤ h.objs.size := let ⟨_, n, _⟩ := c.hv; Nat.le_trans c.above (Nat.le_of_lt n.lt)
theorem grain_call {B l : Addr} {js : List Int} {k : Nat} {Γ : Vars} {many : Int} {e : Expr} {rest : List Expr} {p pos : Pos} {Q : Value → Shared → Prop} (F : Fn env L) (kx : env.kindOf "_law_grain" = some .globalImplicit) (r : Rm A 1)
    (hB : base.get? B = none) (hm : 0 < many) (hk : k < 99) (h20 : js.length ≤ 20)
    (ha : EvL w A (Bx w base L Γ B l js k) (spliced (backTo pos (starEach (e :: rest) env))) [.adr B, .int many]) (c : Bx w base L Γ B l js k s.heap)
    (q : ∀ g u h' tk', 0 ≤ g → g < many → HBut B s.heap h' → Bx w base L Γ B l js (k + 1) h' → Q (.int g u) { s with heap := h', toks := tk' })
    (he : starEach (e :: rest) env = (false, eval e env) :: starEach rest env := by rfl) :
    wpAny (model PR w) A (eval (.Call (.Name "_law_grain" p) (e :: rest) [] pos) env) Q E s :=
  Call_ ((Ev.glob (w := w) (A := A) (h₀ := base) (L := L) (Γ := Γ) at_grain.e F.hk kx F.hg (by decide)) s _ _ c.c fun v h' tk' le ⟨hv, g'⟩ => by
    subst hv
    refine callWith_def (o := oAt w 147) (fd := fAt w 147) (by rfl) (ha _ _ _ (Bx.Mono c le) fun vs h2 tk2 le2 r2 => ?_) he
    have c2 := Bx.Mono (Bx.Mono c le) le2
    refine ⟨(g'.keeps le2).1 _ _ (by rfl), con_grain r c2.c.g c2.c.le c2.c.size hB c2.b hm hk h20 r2 fun g u h3 tk3 g0 g1 hb b => ?_⟩
    obtain ⟨t, hl⟩ := c2.b.hb
    exact q g u h3 tk3 g0 g1 ((HLe.but (HLe.trans le le2)).trans hb) ⟨c2.c.but hl hB hb, b⟩)

/-- what a call of _law_long gives -/
theorem con_long {vs : List Value} {Q : Value → Shared → Prop} (r : Rm A 2) (gb : Gl w base) (hbs : HLe base s.heap) (hsz : base.objs.size ≤ s.heap.objs.size) {B l : Addr} {js : List Int} {k : Nat}
    (hB : base.get? B = none) (bg : Bag s.heap B l js k) (hk : k < 97) (h20 : js.length ≤ 20) (t : Tys s.heap vs [.adr B])
    (q : ∀ v p h' tk', Lw p → Ty h' v (.pair p) → HBut B s.heap h' → Bag h' B l js (k + 2) → Q v { s with heap := h', toks := tk' }) :
    wpAny (model PR w) A (PySem.call (.ref 154) vs) Q E s := by
  have g := gb.keeps hbs
  obtain ⟨X, mean, mg, mb, T⟩ := id g
  refine wpAny_call (codeAny_call_def (o := oAt w 154) (fd := fAt w 154) (body := bodyAt 23) (binds := (["bag"] : List Str).zip vs) (by have := r.hd; omega) (X _ _ (by rfl)) (by rfl) T.nolimit (codeRec_of X (by rfl)) (by rfl)
    (BindsTo.of_eq ?_) ?_ ?_ (fun h₁ hns hk₁ => ?_) (by rfl) (by rfl) (by rfl))
  · match vs, t.len with
    | [a], _ => rfl
  · intro z hz
    have := List.all_eq_true.mp (show ((fAt w 154).scope.names.all fun x => !decide (x.2 = .cell)) = true by rfl) z hz
    simpa using this
  · intro z hz
    have := List.all_eq_true.mp (show ((["bag"] : List Str).all fun x => decide ((fAt w 154).scope.names.lookup x = some .local)) = true by rfl) z.1 (List.of_mem_zip (a := z.1) (b := z.2) hz).1
    exact of_decide_eq_true this
  have F : Fn (callEnv (fAt w 154) s.heap.objs.size 154) s.heap.objs.size := ⟨by rfl, by rfl, by rfl, by rfl⟩
  have k1 : (callEnv (fAt w 154) s.heap.objs.size 154).kindOf "bag" = some .local := by rfl
  have kG : (callEnv (fAt w 154) s.heap.objs.size 154).kindOf "_law_grain" = some .globalImplicit := by rfl
  generalize callEnv (fAt w 154) s.heap.objs.size 154 = env at F k1 kG ⊢
  have hlook := lk_rev ["bag"] vs [.adr B] [] [] (t.mono hk₁) rfl (fun _ _ e => by cases e)
  have c : Bx w base s.heap.objs.size ((["bag"] : List Str).zip [D.adr B]).reverse B l js k h₁ := ⟨⟨gb, HLe.trans hbs hk₁, hsz, _, hns, hlook⟩, bg.mono hk₁⟩
  have bag : ∀ {j p} , Ev w (A.deeper env) (Bx w base s.heap.objs.size [("bag", .adr B)] B l js j) (eval (.Name "bag" p) env) (Is (.adr B)) := fun {j p} => Ev.of (C := Cx w base s.heap.objs.size [("bag", .adr B)]) (fun _ x => x.c) (Ev.var F k1)
  have r1 : Rm (A.deeper env) 1 := r.deeper
  refine wpAny_execs_cons (wpAny_Return_some (Tuple_ (args_cons (wpAny_BinOp (grain_call (many := 2000000001) F kG r1 hB (by decide) (by omega) h20
    (EvL.cons Bx.Mono bag (EvL.cons Bx.Mono (Ev.eq (Ev.two Bx.Mono (Ev.two Bx.Mono Ev.int (Ev.two Bx.Mono Ev.int Ev.int (fun s a b Q E => op_pow (by decide) (by decide))) (fun s a b Q E => op_mul (IntMulOk.of_left (by decide)))) Ev.int (fun s a b Q E => op_add)) (by rfl)) EvL.nil)) c fun g u h2 tk2 g0 g1 b2 c2 => ?_)))))
  refine (Ev.two (d₁ := .int 10) (d₂ := .int 9) (d := .int 1000000000) Bx.Mono Ev.int Ev.int (fun s a b Q E x y q => op_pow (by decide) (by decide) x y q)) _ _ _ c2 fun v h3 tk3 l3 r3 => ?_
  cases r3
  refine PyProof.Rows.sub_int (args_cons (wpAny_BinOp (grain_call (many := 13) F kG r1 hB (by decide) (by omega) h20 (EvL.cons Bx.Mono bag (EvL.cons Bx.Mono Ev.int EvL.nil)) (Bx.Mono c2 l3) fun g' u' h4 tk4 g0' g1' b4 c4 => ?_)))
  refine wpAny_Constant_int (PyProof.Rows.sub_int (args_nil (wpAny_newTuple ?_ (by show 2 ≤ sizeLine; rw [sizeLine_eq]; decide))))
  refine q _ (g - 1000000000, g' - 6) _ _ ⟨?_, ?_, ?_⟩ (.pair (p := (g - 1000000000, g' - 6)) (Heap.get?_push_size _ rfl)) ((HLe.but hk₁).trans (b2.trans ((HLe.but l3).trans (b4.trans (HLe.push _).but)))) (c4.b.mono (HLe.push _))
  · have e1 : (10 : Nat) ^ 9 = 1000000000 := by decide
    show (g - 1000000000).natAbs ≤ _; omega
  · show -6 ≤ g' - 6; omega
  · show g' - 6 ≤ 6; omega
theorem at_long : At w "_law_long" 154 := ⟨by rfl, ⟨oAt w 154, fAt w 154, by rfl, by rfl⟩, by decide⟩
end
end Mine

end

/-! H1 -/
section
open PySem PySem.W PySem.Calls PyProof.Rows
set_option Elab.async false
set_option linter.unusedVariables false
set_option linter.unusedSectionVars false
namespace Mine
section
variable {prog : Program} {w : World} {A : Around} {E : Value → Shared → Prop} {s : Shared}
theorem assign_Tuple_list {env : Env} {elts : List Expr} {x1} {pos : Pos} {t : Addr} {items : Array Value} {Q : Unit → Shared → Prop} (hh : A.handled = none) (ht : s.heap.IsList t items)
    (hn : (assignEach elts env).length = items.size) (hstar : (assignEach elts env).findIdx? (·.1) = none)
    (h : ∀ h', Heap.ExtBut s.heap.objs.size s.heap h' → wpAny (model prog w) A (assignInOrder ((assignEach elts env).map (·.2)) items.toList) Q E { s with heap := h' }) :
    wpAny (model prog w) A (assign (.Tuple elts x1 pos) env (.ref t)) Q E s := by
  rw [PyProof.Rows.assign_Tuple]
  refine wpAny_bind (wpAny_standAt ?_)
  unfold unpack
  rw [hn, hstar]
  exact wpAny_bind (wpAny_holding (kun_itemsOf hh ht h))
end

/-- the cell of digits -/
def CellO (h : Heap) (c : Addr) : Option Int → Prop
  | none => h.IsCell c none
  | some i => ∃ t, h.IsCell c (some (.int i t))
theorem CellO.is {h : Heap} {c : Addr} : ∀ {i : Option Int}, CellO h c i → ∃ v, h.IsCell c v
  | none, x => ⟨_, x⟩
  | some _, ⟨_, x⟩ => ⟨_, x⟩
theorem CellO.at {h h' : Heap} {c : Addr} (k : ∀ o, h.get? c = some o → h'.get? c = some o) : ∀ {i : Option Int}, CellO h c i → CellO h' c i
  | none, ⟨o, ho, hd⟩ => ⟨o, k o ho, hd⟩
  | some _, ⟨t, o, ho, hd⟩ => ⟨t, o, k o ho, hd⟩
theorem CellO.mono {h h' : Heap} {c : Addr} {i : Option Int} (x : CellO h c i) (k : HLe h h') : CellO h' c i := x.at fun o e => k _ o e
theorem CellO.but {h h' : Heap} {c B : Addr} {i : Option Int} {vs : Array Value} (x : CellO h c i) (k : HBut B h h') (hl : h.IsList B vs) : CellO h' c i := by
  obtain ⟨v, o, ho, hd⟩ := x.is
  refine x.at fun o' e => k c o' ?_ e
  rintro rfl
  obtain ⟨o2, ho2, _, n, hd2⟩ := hl
  rw [ho] at ho2; cases ho2
  rw [hd] at hd2; cases hd2
theorem CellO.ns {h h' : Heap} {c L : Addr} {i : Option Int} {m : Str → Option Value} (x : CellO h c i) (k : Heap.SameBut L h h') (hn : h.Ns L m) : CellO h' c i := by
  obtain ⟨v, o, ho, hd⟩ := x.is
  refine x.at fun o' e => (k.2 c ?_).trans e
  rintro rfl
  obtain ⟨o2, es, ep, ho2, hd2, _⟩ := hn
  rw [ho] at ho2; cases ho2
  rw [hd] at hd2; cases hd2
section
variable {w : World} {A : Around} {base : Heap} {L : Addr} {Γ : Vars} {env : Env} {E : Value → Shared → Prop} {s : Shared}
/-- the law's frame over its bag -/
structure Px (w : World) (base : Heap) (L : Addr) (Γ : Vars) (c : Addr) (i : Option Int) (B l : Addr) (js : List Int) (k : Nat) (h : Heap) : Prop where
  x : Bx w base L Γ B l js k h
  d : CellO h c i
theorem Px.Mono {c : Addr} {i : Option Int} {B l : Addr} {js : List Int} {k : Nat} : Mono (Px w base L Γ c i B l js k) := fun x le => ⟨Bx.Mono x.x le, x.d.mono le⟩
theorem Px.but {c : Addr} {i : Option Int} {B l : Addr} {js : List Int} {k k' : Nat} {h h' : Heap} (x : Px w base L Γ c i B l js k h) (hb : HBut B h h') (y : Bx w base L Γ B l js k' h') : Px w base L Γ c i B l js k' h' :=
  ⟨y, let ⟨_, hl⟩ := x.x.b.hb; x.d.but hb hl⟩
/-- the law's frame -/
structure Lx (w : World) (base : Heap) (L : Addr) (Γ : Vars) (c : Addr) (i : Option Int) (h : Heap) : Prop where
  x : Cx w base L Γ h
  d : CellO h c i
theorem Lx.Mono {c : Addr} {i : Option Int} : Mono (Lx w base L Γ c i) := fun x le => ⟨x.x.mono le, x.d.mono le⟩

/-- a local's store, with what else stays -/
theorem st2 {x : Str} {v : Value} {d : D} {Q : Unit → Shared → Prop} (c : Cx w base L Γ s.heap) (t : Ty s.heap v d) (hl : env.kindOf x = some .local) (hL : env.locals = L) (hk : env.scope.kind = .function)
    (q : ∀ h' tk', Cx w base L (upd Γ x d) h' → (∀ u e, Ty s.heap u e → Ty h' u e) → Heap.SameBut L s.heap h' → (∃ m, s.heap.Ns L m) → Q () { s with heap := h', toks := tk' }) : wpAny (model PR w) A (storeName env x v) Q E s := by
  obtain ⟨m, n, p⟩ := c.hv
  subst hL
  exact wpAny_storeName_local hl n (fun h' n' sb => q h' _ (Cx.store c.g c.le c.above n p t n' sb) (fun u e k => k.same n sb) sb ⟨m, n⟩) (by rw [hk]; rfl)
theorem Bag.ns {h h' : Heap} {B l : Addr} {js : List Int} {k : Nat} {m : Str → Option Value} (x : Bag h B l js k) (sb : Heap.SameBut L h h') (hn : h.Ns L m) : Bag h' B l js k := by
  have key : ∀ {a : Addr} {i : Array Value}, h.IsList a i → h'.IsList a i := by
    rintro a i ⟨o, ho, hc, n, hd⟩
    refine ⟨o, (sb.2 a ?_).trans ho, hc, n, hd⟩
    rintro rfl
    obtain ⟨o2, es, ep, ho2, hd2, _⟩ := hn
    rw [ho] at ho2; cases ho2
    rw [hd] at hd2; cases hd2
  obtain ⟨⟨t, b⟩, ⟨vs, c, d⟩, e⟩ := x
  exact ⟨⟨t, key b⟩, ⟨vs, key c, d⟩, e⟩

/-- bag = [script[:20], 0] -/
theorem law_bag {a : Addr} {vs : List Value} {xs : List Int} {c : Addr} {Q : Flow → Shared → Prop} {p1 p2 p3 p4 p5 p6 p7 pos : Pos} {j1 j2 : Nat} (F : Fn env L) (ks : env.kindOf "script" = some .local) (kb : env.kindOf "bag" = some .local)
    (hl : base.IsList a vs.toArray) (hi : IntsAre vs xs) (hx : xs.length ≤ 63) (C : Cx w base L [("script", .adr a)] s.heap) (d : CellO s.heap c none)
    (q : ∀ h' tk' B l js, base.get? B = none → js.length ≤ 20 → Px w base L [("script", .adr a), ("bag", .adr B)] c none B l js 0 h' → Q .next { s with heap := h', toks := tk' }) :
    wpAny (model PR w) A (exec (.Assign [.Name "bag" p1] (.List [.Subscript (.Name "script" p2) (.Slice none (some (.Constant (.int 20) j1 p3)) none p4) p5, .Constant (.int 0) j2 p6] p7) pos) env) Q E s := by
  refine wpAny_Assign_Name ?_ (by rfl)
  refine List_ (args_cons (Subscript_ ((Ev.var (w := w) (A := A) (h₀ := base) (L := L) (Γ := [("script", .adr a)]) (d := .adr a) F ks) s _ _ C fun v h' tk' le r => ?_)))
  cases r
  have C1 := C.mono le
  have hl1 : h'.IsList a vs.toArray := isList_mono hl C1.le
  refine wpAny_Slice ?_
  rw [evalPart_none]
  refine wpAny_pure ?_
  rw [evalPart_some]
  refine wpAny_Constant_int ?_
  refine wpAny_pure ?_
  have hz : vs.length = xs.length := hi.length
  refine subscriptTail_ops (ops := [.ref h'.objs.size, .ref a]) (Heap.IsList.typeIs (hl1.push _)) list_getitem_lookup
    (wpAny_getItem_list_slice (hl1.push _) (Heap.IsSliceOf.new ..) .none (.int 20 _) .none (by simp) ?_ (by rw [List.size_toArray, sizeLine_eq]; omega)) (by with_unfolding_all rfl) (by intro _; with_unfolding_all rfl)
  refine args_cons (wpAny_Constant_int (args_nil (wpAny_newList ?_)))
  have hp : IntsAre (slicePick vs.toArray none (some 20) none).toList (xs.take 20) := slice_ints_uptoW hi (by decide)
  generalize hP : slicePick vs.toArray none (some 20) none = P at hp ⊢
  have lel : HLe h' (((h'.push { cls := .type "slice", data := .fields #[.none, .int 20 tk', .none] }).push { cls := .type "list", data := .seq P })) := (HLe.push _).trans (HLe.push _)
  generalize hH1 : h'.push { cls := .type "slice", data := .fields #[.none, .int 20 tk', .none] } = H1 at lel ⊢
  have l1 : (H1.push { cls := .type "list", data := .seq P }).IsList H1.objs.size P := ⟨_, Heap.get?_push_size _ rfl, rfl, 0, rfl⟩
  generalize hH2 : H1.push { cls := .type "list", data := .seq P } = H2 at lel l1 ⊢
  have C2 := C1.mono lel
  have C3 := C2.mono (HLe.push { cls := .type "list", data := .seq [Value.ref H1.objs.size, Value.int 0 (tk' + 1)].toArray })
  refine st2 (v := .ref H2.objs.size) (d := .adr H2.objs.size) C3 (.adr _) kb F.hL F.hk fun h4 tk4 c4 _ sb ⟨m, n⟩ => ?_
  have b3 : Bag (H2.push { cls := .type "list", data := .seq [Value.ref H1.objs.size, Value.int 0 (tk' + 1)].toArray }) H2.objs.size H1.objs.size (xs.take 20) 0 := by
    refine ⟨⟨tk' + 1, _, Heap.get?_push_size _ rfl, rfl, 0, rfl⟩, ⟨P.toList, ?_, hp⟩, ?_⟩
    · rw [Array.toArray_toList]; exact isList_mono l1 (HLe.push _)
    · obtain ⟨o, ho, _⟩ := l1
      exact Nat.ne_of_lt (Heap.lt_size ho)
  refine q h4 tk4 H2.objs.size H1.objs.size (xs.take 20) (Heap.get?_none_of_le C2.size) (by rw [List.length_take]; omega) ⟨⟨c4, b3.ns sb n⟩, ?_⟩
  exact ((d.mono le).mono (lel.trans (HLe.push _))).ns sb n
end
end Mine

end

/-! H2 -/
section
open PySem PySem.W PySem.Calls PyProof.Rows
set_option Elab.async false
set_option linter.unusedVariables false
set_option linter.unusedSectionVars false
namespace Mine
/-- sequences and dicts stay -/
def Kd (h h' : Heap) : Prop := ∀ b o, h.get? b = some o → ((∃ vs n, o.data = .seq vs n) ∨ (∃ es ep, o.data = .dict es ep)) → h'.get? b = some o
theorem Kd.of_cell {h h' : Heap} {c : Addr} {v : Option Value} (x : h.IsCell c v) (k : HBut c h h') : Kd h h' := by
  obtain ⟨o, ho, hd⟩ := x
  refine fun b o' e d => k b o' ?_ e
  rintro rfl
  rw [e] at ho; cases ho
  rcases d with ⟨vs, n, d⟩ | ⟨es, ep, d⟩ <;> (rw [hd] at d; cases d)
theorem Kd.of_fields {h h' : Heap} {c : Addr} {o : Obj} {vs : Array Value} (ho : h.get? c = some o) (hd : o.data = .fields vs) (k : HBut c h h') : Kd h h' := by
  refine fun b o' e d => k b o' ?_ e
  rintro rfl
  rw [e] at ho; cases ho
  rcases d with ⟨vs, n, d⟩ | ⟨es, ep, d⟩ <;> (rw [hd] at d; cases d)
theorem Kd.trans {a b c : Heap} (x : Kd a b) (y : Kd b c) : Kd a c := fun z o e d => y z o (x z o e d) d
theorem Kd.le {h h' : Heap} (x : HLe h h') : Kd h h' := fun b o e _ => x b o e
theorem Ty.kd {h h' : Heap} {v : Value} {d : D} (x : Ty h v d) (k : Kd h h') : Ty h' v d := by
  induction x with
  | int i t => exact .int i t
  | bool b => exact .bool b
  | pair' e c d => exact .pair' (k _ _ e (.inl ⟨_, _, d⟩)) c d
  | rows e c d _ _ _ i1 i2 i3 => exact .rows (k _ _ e (.inl ⟨_, _, d⟩)) c d i1 i2 i3
  | adr a => exact .adr a
theorem isList_kd {h h' : Heap} {a : Addr} {i : Array Value} (x : h.IsList a i) (k : Kd h h') : h'.IsList a i := let ⟨o, e, c, n, d⟩ := x; ⟨o, k _ _ e (.inl ⟨_, _, d⟩), c, n, d⟩
theorem Bag.kd {h h' : Heap} {B l : Addr} {js : List Int} {k : Nat} (x : Bag h B l js k) (y : Kd h h') : Bag h' B l js k :=
  let ⟨⟨t, b⟩, ⟨vs, c, d⟩, e⟩ := x; ⟨⟨t, isList_kd b y⟩, ⟨vs, isList_kd c y, d⟩, e⟩
theorem Ty.list {h h' : Heap} {v : Value} {p : Int × Int} {B : Addr} {vs : Array Value} (x : Ty h v (.pair p)) (hl : h.IsList B vs) (k : HBut B h h') : Ty h' v (.pair p) := by
  obtain ⟨ob, eb, cb, nb, db⟩ := hl
  cases x with
  | pair' e c d =>
    refine .pair' (k _ _ ?_ e) c d
    rintro rfl
    rw [e] at eb; cases eb
    rw [c] at cb
    injection cb with cb
    exact absurd cb (by decide)
section
variable {w : World} {A : Around} {base : Heap} {L : Addr} {Γ : Vars} {env : Env} {E : Value → Shared → Prop} {s : Shared} {B l c : Addr} {js : List Int} {k : Nat} {i : Option Int}
theorem Cx.kd {h h' : Heap} (x : Cx w base L Γ h) (k : Kd h h') (le : HLe base h') : Cx w base L Γ h' := by
  obtain ⟨m, n, p⟩ := x.hv
  refine ⟨x.g, le, x.above, m, ?_, fun y d e => let ⟨v, a, b⟩ := p y d e; ⟨v, a, b.kd k⟩⟩
  obtain ⟨o, es, ep, ho, hd, r⟩ := n
  exact ⟨o, es, ep, k _ _ ho (.inr ⟨_, _, hd⟩), hd, r⟩
theorem Cx.sub {Γ' : Vars} {h : Heap} (x : Cx w base L Γ h) (hs : ∀ y d, Γ'.lookup y = some d → Γ.lookup y = some d) : Cx w base L Γ' h :=
  ⟨x.g, x.le, x.above, let ⟨m, n, p⟩ := x.hv; ⟨m, n, fun y d e => p y d (hs y d e)⟩⟩

theorem Ev.bag (F : Fn env L) (kb : env.kindOf "bag" = some .local) (hb : Γ.lookup ("bag" : Str) = some (.adr B)) {p : Pos} : Ev w A (Bx w base L Γ B l js k) (eval (.Name "bag" p) env) (Is (.adr B)) :=
  Ev.of (C := Cx w base L Γ) (fun _ x => x.c) (Ev.var F kb hb)

/-- digits = 3 + _law_grain(bag, 5) -/
theorem law_digits {Q : Flow → Shared → Prop} {p1 p2 p3 p4 p5 p6 p7 pos : Pos} {j1 j2 : Nat} (F : Fn env L) (kb : env.kindOf "bag" = some .local) (kd : env.kindOf "digits" = some .cell) (kg : env.kindOf "_law_grain" = some .globalImplicit)
    (hc : env.cells.lookup ("digits" : Str) = some c) (hcb : base.get? c = none) (r : Rm A 1) (hB : base.get? B = none) (h20 : js.length ≤ 20) (hk : k < 90) (hb : Γ.lookup ("bag" : Str) = some (.adr B)) (x : Px w base L Γ c none B l js k s.heap)
    (q : ∀ h' tk' (dg : Nat), 3 ≤ dg → dg ≤ 7 → Px w base L Γ c (some dg) B l js (k + 1) h' → Q .next { s with heap := h', toks := tk' }) :
    wpAny (model PR w) A (exec (.Assign [.Name "digits" p1] (.BinOp (.Constant (.int 3) j1 p2) .Add (.Call (.Name "_law_grain" p3) [.Name "bag" p4, .Constant (.int 5) j2 p5] [] p6) p7) pos) env) Q E s := by
  refine wpAny_Assign_Name (wpAny_BinOp (wpAny_Constant_int (grain_call (many := 5) F kg r hB (by decide) (by omega) h20 (EvL.cons Bx.Mono (Ev.bag F kb hb) (EvL.cons Bx.Mono Ev.int EvL.nil)) x.x fun g u h' tk' g0 g1 hb' b2 => ?_))) (by rfl)
  have x2 := x.but hb' b2
  refine PyProof.Rows.add_int ?_
  refine wpAny_storeName_cell F.hk kd hc x2.d fun h2 ic sb => ?_
  have kk : Kd h' h2 := Kd.of_cell x2.d (.of sb)
  refine q h2 _ (3 + g).toNat (by omega) (by omega) ⟨⟨x2.x.c.kd kk (HBut.le (.of sb) x2.x.c.le hcb), x2.x.b.kd kk⟩, ?_⟩
  rw [show (((3 + g).toNat : Nat) : Int) = 3 + g by omega]
  exact ⟨_, ic⟩

theorem long_call {e : Expr} {rest : List Expr} {p pos : Pos} {Q : Value → Shared → Prop} (F : Fn env L) (kx : env.kindOf "_law_long" = some .globalImplicit) (r : Rm A 2)
    (hB : base.get? B = none) (hk : k < 97) (h20 : js.length ≤ 20)
    (ha : EvL w A (Bx w base L Γ B l js k) (spliced (backTo pos (starEach (e :: rest) env))) [.adr B]) (x : Px w base L Γ c i B l js k s.heap)
    (q : ∀ v p h' tk', Lw p → Ty h' v (.pair p) → HBut B s.heap h' → Px w base L Γ c i B l js (k + 2) h' → Q v { s with heap := h', toks := tk' })
    (he : starEach (e :: rest) env = (false, eval e env) :: starEach rest env := by rfl) :
    wpAny (model PR w) A (eval (.Call (.Name "_law_long" p) (e :: rest) [] pos) env) Q E s :=
  Call_ ((Ev.glob (w := w) (A := A) (h₀ := base) (L := L) (Γ := Γ) at_long.e F.hk kx F.hg (by decide)) s _ _ x.x.c fun v h' tk' le ⟨hv, g'⟩ => by
    subst hv
    refine callWith_def (o := oAt w 154) (fd := fAt w 154) (by rfl) (ha _ _ _ (Bx.Mono x.x le) fun vs h2 tk2 le2 r2 => ?_) he
    have x2 := Px.Mono (Px.Mono x le) le2
    refine ⟨(g'.keeps le2).1 _ _ (by rfl), con_long r x2.x.c.g x2.x.c.le x2.x.c.size hB x2.x.b hk h20 r2 fun v p h3 tk3 hp ht hb b => ?_⟩
    obtain ⟨t, hl⟩ := x2.x.b.hb
    exact q v p h3 tk3 hp ht ((HLe.but (HLe.trans le le2)).trans hb) (x2.but hb ⟨x2.x.c.but hl hB hb, b⟩))

/-- rows = [_law_long(bag), _law_long(bag), _law_long(bag)] -/
theorem law_rows {Q : Flow → Shared → Prop} {p1 p2 p3 p4 p5 p6 p7 p8 p9 p10 p11 pos : Pos} (F : Fn env L) (kb : env.kindOf "bag" = some .local) (kr : env.kindOf "rows" = some .local) (kg : env.kindOf "_law_long" = some .globalImplicit)
    (r : Rm A 2) (hB : base.get? B = none) (h20 : js.length ≤ 20) (hk : k < 90) (hb : Γ.lookup ("bag" : Str) = some (.adr B)) (x : Px w base L Γ c i B l js k s.heap)
    (q : ∀ h' tk' R a b d, base.get? R = none → Lw a → Lw b → Lw d → Ty h' (.ref R) (.rows a b d) → Px w base L (upd Γ "rows" (.adr R)) c i B l js (k + 6) h' → Q .next { s with heap := h', toks := tk' }) :
    wpAny (model PR w) A (exec (.Assign [.Name "rows" p1] (.List [.Call (.Name "_law_long" p2) [.Name "bag" p3] [] p4, .Call (.Name "_law_long" p5) [.Name "bag" p6] [] p7, .Call (.Name "_law_long" p8) [.Name "bag" p9] [] p10] p11) pos) env) Q E s := by
  refine wpAny_Assign_Name ?_ (by rfl)
  refine List_ (args_cons (long_call F kg r hB (by omega) h20 (EvL.cons Bx.Mono (Ev.bag F kb hb) EvL.nil) x fun v1 a h1 tk1 w1 t1 u1 x1 => ?_))
  refine args_cons (long_call F kg r hB (by omega) h20 (EvL.cons Bx.Mono (Ev.bag F kb hb) EvL.nil) x1 fun v2 b h2 tk2 w2 t2 u2 x2 => ?_)
  refine args_cons (long_call F kg r hB (by omega) h20 (EvL.cons Bx.Mono (Ev.bag F kb hb) EvL.nil) x2 fun v3 d h3 tk3 w3 t3 u3 x3 => ?_)
  refine args_nil (wpAny_newList ?_)
  obtain ⟨tt1, l1⟩ := x1.x.b.hb
  obtain ⟨tt2, l2⟩ := x2.x.b.hb
  have T1 : Ty h3 v1 (.pair a) := (t1.list l1 u2).list l2 u3
  have T2 : Ty h3 v2 (.pair b) := t2.list l2 u3
  have le := HLe.push (h := h3) { cls := .type "list", data := .seq [v1, v2, v3].toArray }
  have x4 := Px.Mono x3 le
  refine st2 (d := .adr h3.objs.size) x4.x.c (.adr _) kr F.hL F.hk fun h5 tk5 c5 kt sb ⟨m, n⟩ => ?_
  exact q h5 tk5 _ a b d (Heap.get?_none_of_le x3.x.c.size) w1 w2 w3 (kt _ _ (.rows (Heap.get?_push_size _ rfl) rfl rfl (T1.mono le) (T2.mono le) (t3.mono le))) ⟨⟨c5, x4.x.b.ns sb n⟩, x4.d.ns sb n⟩
end
end Mine

end

/-! H3 -/
section
open PySem PySem.W PySem.Calls PyProof.Rows
set_option Elab.async false
set_option linter.unusedVariables false
set_option linter.unusedSectionVars false
namespace Mine
section
variable {w : World} {A : Around} {C : Heap → Prop} {base : Heap} {L : Addr} {Γ : Vars} {env : Env} {E : Value → Shared → Prop} {s : Shared} {B l c : Addr} {js : List Int} {k : Nat} {i : Option Int} {p q r : Int × Int}
def pick3 (p q r : Int × Int) (i : Int) : Int × Int := if i = 0 then p else if i = 1 then q else r
/-- a row -/
theorem Ev.row {e f : Expr} {j : Int} {pos : Pos} (M : Mono C) (h : Ev w A C (eval e env) (Is (.rows p q r))) (hi : Ev w A C (eval f env) (Is (.int j))) (h0 : 0 ≤ j) (h3 : j < 3)
    (hs : ∀ a u, subscripted f false (.ref a) (.int j u) = operate [.ref a, .int j u] (getItem (.ref a) (.int j u)) := by intro _ _; with_unfolding_all rfl) :
    Ev w A C (eval (.Subscript e f pos) env) (Is (.pair (pick3 p q r j))) :=
  fun s Q E c q' => Subscript_ (h s _ _ c fun v h1 tk1 l1 r1 => hi _ _ _ (M c l1) fun v2 h2 tk2 l2 r2 => by
    have r1 := r1.mono l2
    cases r2 with
    | int _ u =>
    cases r1 with
    | @rows a o x y z n _ _ _ e1 e2 e3 t1 t2 t3 =>
      have hl : Heap.IsList h2 a #[x, y, z] := ⟨o, e1, e2, n, e3⟩
      have hj : j = 0 ∨ j = 1 ∨ j = 2 := by omega
      rcases hj with rfl | rfl | rfl
      · exact item_listR hl (by decide) (by decide) (x := x) rfl (q' _ h2 _ (l1.trans l2) (by simpa [pick3] using t1)) (hs a u)
      · exact item_listR hl (by decide) (by decide) (x := y) rfl (q' _ h2 _ (l1.trans l2) (by simpa [pick3] using t2)) (hs a u)
      · exact item_listR hl (by decide) (by decide) (x := z) rfl (q' _ h2 _ (l1.trans l2) (by simpa [pick3] using t3)) (hs a u))
theorem Ev.dig (F : Fn env L) (kd : env.kindOf "digits" = some .cell) (hc : env.cells.lookup ("digits" : Str) = some c) {dg : Int} {pos : Pos} : Ev w A (Lx w base L Γ c (some dg)) (eval (.Name "digits" pos) env) (Is (.int dg)) := by
  intro s Q E x q
  obtain ⟨t, hd⟩ := x.d
  exact wpAny_Name (wpAny_loadName_cell F.hk kd hc hd (q _ s.heap s.toks .refl (.int _ _))) (by decide)
theorem Ev.loc2 (F : Fn env L) {x : Str} {d : D} {pos : Pos} (hl : env.kindOf x = some .local) (hd : Γ.lookup x = some d := by rfl) (hb : (x == ("__debug__" : Str)) = false := by decide) : Ev w A (Lx w base L Γ c i) (eval (.Name x pos) env) (Is d) :=
  Ev.of (C := Cx w base L Γ) (fun _ x => x.x) (Ev.var F hl hd hb)


theorem Cx.toRows {h : Heap} {R : Addr} (x : Cx w base L Γ h) (hr : Γ.lookup ("rows" : Str) = some (.adr R)) (t : Ty h (.ref R) (.rows p q r)) : Cx w base L [("rows", .rows p q r)] h := by
  obtain ⟨m, n, pp⟩ := x.hv
  refine ⟨x.g, x.le, x.above, m, n, fun y d e => ?_⟩
  obtain ⟨v, hm, tv⟩ := pp _ _ hr
  cases tv
  simp only [List.lookup] at e
  cases hy : y == ("rows" : Str) with
  | true =>
    rw [hy] at e
    cases e
    have : y = ("rows" : Str) := by simpa using hy
    subst this
    exact ⟨_, hm, t⟩
  | false => rw [hy] at e; cases e
theorem Cx.adrBut {h h' : Heap} {R : Addr} {vs : Array Value} {x : Str} (y : Cx w base L [(x, .adr R)] h) (hl : h.IsList R vs) (hR : base.get? R = none) (kk : HBut R h h') : Cx w base L [(x, .adr R)] h' := by
  obtain ⟨m, n, pp⟩ := y.hv
  refine ⟨y.g, HBut.le kk y.le hR, y.above, m, ?_, fun z d e => ?_⟩
  · obtain ⟨o, es, ep, ho, hd, rest⟩ := n
    refine ⟨o, es, ep, kk _ _ ?_ ho, hd, rest⟩
    rintro rfl
    obtain ⟨ob, eb, cb, nb, db⟩ := hl
    rw [ho] at eb; cases eb
    rw [hd] at db; cases db
  · obtain ⟨v, hm, t⟩ := pp z d e
    refine ⟨v, hm, ?_⟩
    simp only [List.lookup] at e
    cases hy : z == x with
    | true => rw [hy] at e; cases e; cases t; exact .adr _
    | false => rw [hy] at e; cases e

/-- if _law_grain(bag, 4) == 0: rows[1] = (rows[0][0] * 10, rows[0][1] - 1) -/
theorem law_if {Q : Flow → Shared → Prop} {a R : Addr} {p1 p2 p3 p4 p5 p6 p7 p8 p9 p10 p11 p12 p13 p14 p15 p16 p17 p18 p19 p20 p21 p22 p23 p24 p25 p26 : Pos} {j1 j2 j3 j4 j5 j6 j7 j8 j9 : Nat}
    (F : Fn env L) (kb : env.kindOf "bag" = some .local) (kr : env.kindOf "rows" = some .local) (kg : env.kindOf "_law_grain" = some .globalImplicit) (rm : Rm A 1)
    (hB : base.get? B = none) (h20 : js.length ≤ 20) (hk : k < 90) (wp' : Lw p) (wq : Lw q) (hR : base.get? R = none) (T : Ty s.heap (.ref R) (.rows p q r)) (x : Px w base L [("script", .adr a), ("bag", .adr B), ("rows", .adr R)] c i B l js k s.heap)
    (Qn : ∀ h' tk' q', Rw q' → Lx w base L [("rows", .rows p q' r)] c i h' → Q .next { s with heap := h', toks := tk' }) :
    wpAny (model PR w) A (exec (.If (.Compare (.Call (.Name "_law_grain" p1) [.Name "bag" p2, .Constant (.int 4) j1 p3] [] p4) [.Eq] [.Constant (.int 0) j2 p5] p6)
      [.Assign [.Subscript (.Name "rows" p7) (.Constant (.int 1) j3 p8) p9] (.Tuple [.BinOp (.Subscript (.Subscript (.Name "rows" p10) (.Constant (.int 0) j4 p11) p12) (.Constant (.int 0) j5 p13) p14) .Mult (.Constant (.int 10) j6 p15) p16,
        .BinOp (.Subscript (.Subscript (.Name "rows" p17) (.Constant (.int 0) j7 p18) p19) (.Constant (.int 1) j8 p20) p21) .Sub (.Constant (.int 1) j9 p22) p23] 0 p24) p25] [] p26) env) Q E s := by
  refine wpAny_If (wpAny_isTrue_Compare1 (grain_call (many := 4) F kg rm hB (by decide) (by omega) h20 (EvL.cons Bx.Mono (Ev.bag F kb rfl) (EvL.cons Bx.Mono Ev.int EvL.nil)) x.x fun g u h1 tk1 g0 g1 hb b1 => ?_) (by with_unfolding_all rfl))
  have x1 := x.but hb b1
  obtain ⟨tt, hlB⟩ := x.x.b.hb
  have T1 : Ty h1 (.ref R) (.rows p q r) := T.but hlB hb
  have c1 : Lx w base L [("rows", .rows p q r)] c i h1 := ⟨x1.x.c.toRows rfl T1, x1.d⟩
  refine wpAny_Constant_int (PyProof.Rows.eq_int (wpAny_truthy_bool ?_))
  by_cases hg : g = 0
  · have e : (g == 0) = true := by simp [hg]
    rw [e]
    refine wpAny_execs_cons (wpAny_Assign_Subscript ?_ (by rfl))
    have ev0 : ∀ {p1 p2 p3 : Pos} {j : Nat}, Ev w A (Lx w base L [("rows", .rows p q r)] c i) (eval (.Subscript (.Name "rows" p1) (.Constant (.int 0) j p2) p3) env) (Is (.pair p)) := fun {_ _ _ _} => Ev.row (j := 0) Lx.Mono (Ev.loc2 F kr) Ev.int (by decide) (by decide)
    have hm := wp'.m
    have e9 : (10 : Nat) ^ 9 = 1000000000 := by decide
    refine (Ev.tup Lx.Mono (Ev.two Lx.Mono (Ev.item0 Lx.Mono ev0) Ev.int (fun s a b Q E => op_mul (IntMulOk.of_left (intBits_le_64 (by omega) (by omega))))) (Ev.two Lx.Mono (Ev.item1 Lx.Mono ev0) Ev.int (fun s a b Q E => op_sub))) _ _ _ c1 fun v h2 tk2 l2 t2 => ?_
    have y2 := (x1.x.c.mono l2).sub (Γ' := [("rows", .adr R)]) (fun y d e => by
      simp only [List.lookup] at e
      cases hy : y == ("rows" : Str) with
      | true =>
        rw [hy] at e; cases e
        have : y = ("rows" : Str) := by simpa using hy
        subst this
        rfl
      | false => rw [hy] at e; cases e)
    obtain ⟨m, n, pp⟩ := id y2.hv
    obtain ⟨vR, hmR, tR⟩ := pp ("rows" : Str) (.adr R) (by rfl)
    cases tR
    rw [← F.hL] at n
    refine wpAny_Name (wpAny_loadName_local F.hk kr n hmR (wpAny_Constant_int ?_)) (by decide)
    have T2 := T1.mono l2
    cases T2 with
    | @rows _ o xx yy zz nn _ _ _ e1 e2 e3 t1 t2' t3 =>
      have hl : Heap.IsList h2 R #[xx, yy, zz] := ⟨o, e1, e2, nn, e3⟩
      refine wpAny_setItem_list hl (by decide) (by decide) (by simp) fun h3 hl3 sb => ?_
      refine wpAny_execs_nil (Qn h3 _ (p.1 * 10, p.2 - 1) wp'.ten ⟨(y2.adrBut hl hR (.of sb)).toRows rfl ?_, (c1.d.mono l2).but (.of sb) hl⟩)
      obtain ⟨o3, g1, g2, n3, g3⟩ := hl3
      exact .rows g1 g2 g3 (t1.list hl (.of sb)) (t2.list hl (.of sb)) (t3.list hl (.of sb))
  · have e : (g == 0) = false := by simp [hg]
    rw [e]
    exact wpAny_execs_nil (Qn h1 _ q wq.rw c1)
end
end Mine

end

/-! H4 -/
section
open PySem PySem.W PySem.Calls PyProof.Rows
set_option Elab.async false
set_option linter.unusedVariables false
set_option linter.unusedSectionVars false
namespace Mine
theorem CellO.fields {h h' : Heap} {c I : Addr} {i : Option Int} {o : Obj} {vs : Array Value} (x : CellO h c i) (ho : h.get? I = some o) (hd : o.data = .fields vs) (k : HBut I h h') : CellO h' c i := by
  obtain ⟨v, o2, ho2, hd2⟩ := x.is
  refine x.at fun o' e => k c o' ?_ e
  rintro rfl
  rw [ho] at ho2; cases ho2
  rw [hd] at hd2; cases hd2
section
variable {w : World} {A : Around} {C : Heap → Prop} {base : Heap} {L : Addr} {Γ : Vars} {env : Env} {E : Value → Shared → Prop} {s : Shared} {c : Addr} {i : Option Int} {p q r : Int × Int}
theorem Lx.fields {h h' : Heap} {I : Addr} {o : Obj} {vs : Array Value} (x : Lx w base L Γ c i h) (ho : h.get? I = some o) (hd : o.data = .fields vs) (hI : base.get? I = none) (k : HBut I h h') : Lx w base L Γ c i h' :=
  ⟨x.x.kd (Kd.of_fields ho hd k) (HBut.le k x.x.le hI), x.d.fields ho hd k⟩
theorem Lx.sub {Γ' : Vars} {h : Heap} (x : Lx w base L Γ c i h) (hs : ∀ y d, Γ'.lookup y = some d → Γ.lookup y = some d) : Lx w base L Γ' c i h := ⟨x.x.sub hs, x.d⟩
theorem lookup_head {x : Str} {d : D} {Γ : Vars} : ∀ y e, List.lookup y [(x, d)] = some e → List.lookup y ((x, d) :: Γ) = some e := fun y e h => by
  simp only [List.lookup] at h ⊢
  cases hy : y == x with
  | true => rw [hy] at h; exact h
  | false => rw [hy] at h; cases h

/-- for turn in range(3): if not _law_rounds_right(rows[turn], rows[(turn + 1) % 3], digits): return False -/
theorem law_for {dg : Nat} {Q : Flow → Shared → Prop} {p1 p2 p3 p4 p5 p6 p7 p8 p9 p10 p11 p12 p13 p14 p15 p16 p17 p18 p19 p20 : Pos} {j1 j2 j3 : Nat} {rest : List Stmt}
    (F : Fn env L) (kr : env.kindOf "rows" = some .local) (kt : env.kindOf "turn" = some .local) (kd : env.kindOf "digits" = some .cell) (hc : env.cells.lookup ("digits" : Str) = some c) (kR : env.kindOf "range" = some .globalImplicit) (kU : env.kindOf "_law_rounds_right" = some .globalImplicit)
    (rm : Rm A 4) (o1 : RoundsOk p q dg) (o2 : RoundsOk q r dg) (o3 : RoundsOk r p dg) (x : Lx w base L [("rows", .rows p q r)] c (some dg) s.heap)
    (Qn : ∀ h' tk', Lx w base L [("rows", .rows p q r)] c (some dg) h' → Q .next { s with heap := h', toks := tk' }) :
    wpAny (model PR w) A (exec (.For (.Name "turn" p1) (.Call (.Name "range" p2) [.Constant (.int 3) j1 p3] [] p4)
      [.If (.UnaryOp .Not (.Call (.Name "_law_rounds_right" p5) [.Subscript (.Name "rows" p6) (.Name "turn" p7) p8, .Subscript (.Name "rows" p9) (.BinOp (.BinOp (.Name "turn" p10) .Add (.Constant (.int 1) j2 p11) p12) .Mod (.Constant (.int 3) j3 p13) p14) p15, .Name "digits" p16] [] p17) p18) rest [] p19] [] p20) env) Q E s := by
  refine wpAny_For ?_ (by intro _; rfl)
  refine Call_ ((Ev.boot (w := w) (A := A) (h₀ := base) (L := L) (Γ := [("rows", .rows p q r)]) (v := .type "range") (by rfl) (by rfl) (by decide) F.hk kR F.hg F.hb (by decide)) s _ _ x.x fun v h1 tk1 l1 hv => ?_)
  subst hv
  refine PyProof.Rows.callWith_type1 (args_cons (wpAny_Constant_int (args_nil (call_range_1 ?_)))) (by rfl) (by rfl)
  refine wpAny_pyIter_range (IsRange.new ..) (by decide) ?_
  generalize hH1 : h1.push { cls := .type "range", data := .fields #[.int 0 (tk1 + 1), .int 3 tk1, .int 1 (tk1 + 1 + 1)] } = H1
  have x1 : Lx w base L [("rows", .rows p q r)] c (some dg) H1 := by rw [← hH1]; exact Lx.Mono (Lx.Mono x l1) (HLe.push _)
  have hI : base.get? H1.objs.size = none := Heap.get?_none_of_le x1.x.size
  have x2 := Lx.Mono x1 (HLe.push { cls := .type "range_iterator", data := .fields #[rawInt 0, rawInt (Builtin.Range.rangeSize 0 3 1), rawInt 1] })
  have W := Walks.range (prog := PR) (w := w) rm.hh H1.objs.size 0 1 3
  refine codeAny_forLoop (fun n s' => ∃ (j : Nat) (h : Heap) (tk : Nat), j ≤ 3 ∧ n = 3 - j ∧ s' = { s with heap := h, toks := tk } ∧ IsRangeIter h H1.objs.size (0 + (j : Int) * 1) (((3 : Nat) : Int) - (j : Int)) 1 ∧ Lx w base L [("rows", .rows p q r)] c (some dg) h) ?_ 3
    ⟨0, _, _, by decide, rfl, rfl, ?_, x2⟩ (by intro _; rfl)
  rotate_left
  · exact Heap.get?_push_size _ rfl
  rintro n _ ⟨j, h, tk, hj, rfl, rfl, hit, xj⟩
  by_cases hj3 : j < 3
  · refine W.item j _ _ _ hj3 hit fun v h' tk' ⟨t, hv⟩ st hk => ?_
    have hj0 : (0 : Int) + (j : Int) * 1 = j := by omega
    rw [hj0] at hv
    subst hv
    have y1 := xj.fields hit rfl hI (fun b o hb e => hk b o (by simpa using hb) e)
    refine PyProof.Rows.assign_Name (st2 (d := .int j) y1.x (.int _ t) kt F.hL F.hk fun h2 tk2 c2 _ sb ⟨m, n⟩ => ?_)
    have y2 : Lx w base L [("rows", .rows p q r), ("turn", .int j)] c (some dg) h2 := ⟨c2, y1.d.ns sb n⟩
    have hne : H1.objs.size ≠ L := by
      rintro e
      obtain ⟨o, es, ep, ho, hd, _⟩ := n
      rw [← e, st] at ho
      cases ho
      cases hd
    have st2 := (sb.2 _ hne).trans st
    have hj' : j = 0 ∨ j = 1 ∨ j = 2 := by omega
    have H : RoundsOk (pick3 p q r j) (pick3 p q r (((j : Int) + 1) % 3)) dg := by
      rcases hj' with rfl | rfl | rfl
      · exact o1
      · exact o2
      · exact o3
    refine wpAny_execs_cons (wpAny_If ((EvB.not (EvB.plain (Ev.callF Lx.Mono (rm.less (by decide)) (Ev.of (C := Cx w base L [("rows", .rows p q r), ("turn", .int j)]) (fun _ x => x.x) (Ev.glob at_rounds.e F.hk kU F.hg (by decide))) (o := oAt w 168) (fd := fAt w 168) (by rfl) (by rfl) (con_rounds _ _ _ H)
      (EvL.cons Lx.Mono (Ev.row Lx.Mono (Ev.loc2 F kr) (Ev.loc2 F kt) (by omega) (by omega))
      (EvL.cons Lx.Mono (Ev.row Lx.Mono (Ev.loc2 F kr) (Ev.two Lx.Mono (Ev.two Lx.Mono (Ev.loc2 F kt) Ev.int (fun s a b Q E => op_add)) Ev.int (fun s a b Q E => op_mod (by decide))) (by omega) (by omega))
      (EvL.cons Lx.Mono (Ev.dig F kd hc) EvL.nil)))))) _ _ _ y2 fun h3 tk3 l3 => ?_))
    refine wpAny_execs_nil (wpAny_execs_nil ⟨3 - (j + 1), by omega, j + 1, h3, tk3, by omega, rfl, rfl, l3 _ _ st2, (Lx.Mono y2 l3).sub lookup_head⟩)
  · have : j = 3 := by omega
    subst this
    exact W.done _ _ _ hit fun h' tk' hk => wpAny_execs_nil (Qn h' tk' (xj.fields hit rfl hI (fun b o hb e => hk b o (by simpa using hb) e)))
end
end Mine

end

/-! H5 -/
section
open PySem PySem.W PySem.Calls PyProof.Rows
set_option Elab.async false
set_option linter.unusedVariables false
set_option linter.unusedSectionVars false
namespace Mine
theorem Tys.tr {h h' : Heap} (k : ∀ v p, Ty h v (.pair p) → Ty h' v (.pair p)) : ∀ {vs : List Value} {ps : List (Int × Int)}, Tys h vs (ps.map D.pair) → Tys h' vs (ps.map D.pair)
  | [], [], _ => True.intro
  | _ :: _, _ :: _, x => ⟨k _ _ x.1, Tys.tr k x.2⟩
  | [], _ :: _, x => x.elim
  | _ :: _, [], x => x.elim
theorem Tys.snoc {h : Heap} {v : Value} {p : Int × Int} (t : Ty h v (.pair p)) : ∀ {vs : List Value} {ps : List (Int × Int)}, Tys h vs (ps.map D.pair) → Tys h (vs ++ [v]) ((ps ++ [p]).map D.pair)
  | [], [], _ => ⟨t, True.intro⟩
  | _ :: _, _ :: _, x => ⟨x.1, Tys.snoc t x.2⟩
  | [], _ :: _, x => x.elim
  | _ :: _, [], x => x.elim
theorem Tys.get {h : Heap} : ∀ {vs : List Value} {ps : List (Int × Int)} (j : Nat) (v : Value), Tys h vs (ps.map D.pair) → vs[j]? = some v → ∃ p, ps[j]? = some p ∧ Ty h v (.pair p)
  | [], _, _, _, _, e => by simp at e
  | _ :: _, [], _, _, x, _ => x.elim
  | _ :: _, p :: _, 0, _, x, e => by simp at e; subst e; exact ⟨p, rfl, x.1⟩
  | _ :: _, _ :: _, j + 1, v, x, e => by simpa using Tys.get j v x.2 (by simpa using e)
theorem Tys.three {h : Heap} {p q r : Int × Int} : ∀ {vs : List Value}, Tys h vs [.pair p, .pair q, .pair r] → ∃ a b d, vs = [a, b, d] ∧ Ty h a (.pair p) ∧ Ty h b (.pair q) ∧ Ty h d (.pair r)
  | [], x => x.elim
  | [_], x => x.2.elim
  | [_, _], x => x.2.2.elim
  | [a, b, d], x => ⟨a, b, d, rfl, x.1, x.2.1, x.2.2.1⟩
  | _ :: _ :: _ :: _ :: _, x => x.2.2.2.elim
theorem isListIter_at {h h' : Heap} {I l : Addr} {j : Nat} (x : h.IsListIter I l j) (k : ∀ o, h.get? I = some o → h'.get? I = some o) : h'.IsListIter I l j := let ⟨o, e, r⟩ := x; ⟨o, k _ e, r⟩
def rd3 (dg : Nat) (x : Int × Int) : Int × Int := rr x.1 x.2 dg
section
variable {w : World} {A : Around} {base : Heap} {L : Addr} {Γ : Vars} {env : Env} {E : Value → Shared → Prop} {s : Shared} {c C I R N : Addr} {dg : Nat} {p q r : Int × Int} {items : Array Value} {ys : List Value} {j : Nat} {ins : List (Int × Int)}
/-- in the midst of the law's comprehension -/
structure Kx (w : World) (base : Heap) (L C c : Addr) (dg : Nat) (I R N : Addr) (Γ : Vars) (items : Array Value) (ys : List Value) (j t : Nat) (ins : List (Int × Int)) (h : Heap) : Prop where
  a : Lx w base L [] c (some dg) h
  k : Cx w base C Γ h
  it : h.IsListIter I R t
  l : h.IsList R items
  d : h.PlainList N ys.toArray
  ty : Tys h ys (((ins.take j).map (rd3 dg)).map D.pair)
  tv : Tys h items.toList (ins.map D.pair)
theorem Kx.mono {t : Nat} {h h' : Heap} (x : Kx w base L C c dg I R N Γ items ys j t ins h) (k : HLe h h') : Kx w base L C c dg I R N Γ items ys j t ins h' :=
  ⟨Lx.Mono x.a k, x.k.mono k, isListIter_at x.it fun o e => k _ _ e, isList_mono x.l k, x.d.at fun o e => k _ _ e, x.ty.mono k, x.tv.mono k⟩
/-- the iterator moves -/
theorem Kx.turn {t : Nat} {h h' : Heap} (x : Kx w base L C c dg I R N Γ items ys j t ins h) (k : HBut I h h') (hI : base.get? I = none) :
    Lx w base L [] c (some dg) h' ∧ Cx w base C Γ h' ∧ h'.IsList R items ∧ h'.PlainList N ys.toArray ∧ Tys h' ys (((ins.take j).map (rd3 dg)).map D.pair) ∧ Tys h' items.toList (ins.map D.pair) := by
  obtain ⟨o, ho, _, hd⟩ := x.it
  have kk := Kd.of_fields ho hd k
  refine ⟨x.a.fields ho hd hI k, x.k.kd kk (HBut.le k x.k.le hI), isList_kd x.l kk, x.d.at fun o e => k _ _ ?_ e, x.ty.tr fun v p t => t.kd kk, x.tv.tr fun v p t => t.kd kk⟩
  rintro rfl
  obtain ⟨n, e2⟩ := x.d
  rw [ho] at e2; cases e2; cases hd
/-- another frame's store -/
theorem Lx.frame {h h' : Heap} {i : Option Int} {m : Str → Option Value} (x : Lx w base L [] c i h) (sb : Heap.SameBut C h h') (hn : h.Ns C m) (hne : L ≠ C) (hC : base.get? C = none) : Lx w base L [] c i h' := by
  obtain ⟨m', n', _⟩ := x.x.hv
  exact ⟨⟨x.x.g, HBut.le (.of sb) x.x.le hC, x.x.above, m', n'.sameBut sb hne, fun _ _ e => by cases e⟩, x.d.ns sb hn⟩
theorem Kx.store {t : Nat} {Γ' : Vars} {h h' : Heap} (x : Kx w base L C c dg I R N Γ items ys j t ins h) (sb : Heap.SameBut C h h') (k' : Cx w base C Γ' h') (hne : L ≠ C) (hC : base.get? C = none) :
    Kx w base L C c dg I R N Γ' items ys j t ins h' := by
  obtain ⟨m, n, _⟩ := x.k.hv
  have key : ∀ {b : Addr} {o : Obj}, h.get? b = some o → (∀ es ep, o.data ≠ .dict es ep) → h'.get? b = some o := by
    rintro b o e hd
    refine (sb.2 b ?_).trans e
    rintro rfl
    obtain ⟨o2, es, ep, ho2, hd2, _⟩ := n
    rw [e] at ho2; cases ho2
    exact hd _ _ hd2
  refine ⟨x.a.frame sb n hne hC, k', ?_, ?_, ?_, x.ty.tr fun v p t => t.same n sb, x.tv.tr fun v p t => t.same n sb⟩
  · obtain ⟨o, e, ec, ed⟩ := x.it
    exact ⟨o, key e (fun _ _ q => by rw [ed] at q; cases q), ec, ed⟩
  · obtain ⟨o, e, ec, nn, ed⟩ := x.l
    exact ⟨o, key e (fun _ _ q => by rw [ed] at q; cases q), ec, nn, ed⟩
  · obtain ⟨nn, e⟩ := x.d
    exact ⟨nn, key e (fun _ _ q => by cases q)⟩
/-- one more is kept -/
theorem Kx.append {t : Nat} {h h' : Heap} {y : Value} {pj : Int × Int} (x : Kx w base L C c dg I R N Γ items ys j t ins h) (sb : Heap.SameBut N h h') (d : h'.PlainList N (ys ++ [y]).toArray) (ty : Ty h y (.pair (rd3 dg pj))) (hj : ins[j]? = some pj)
    (hRN : R ≠ N) (hN : base.get? N = none) : Kx w base L C c dg I R N [] items (ys ++ [y]) (j + 1) t ins h' := by
  have hl := x.d.isList
  have key : ∀ {b : Addr} {o : Obj}, h.get? b = some o → (∀ vs n, o.data ≠ .seq vs n) → h'.get? b = some o := by
    rintro b o e hd
    refine (sb.2 b ?_).trans e
    rintro rfl
    obtain ⟨nn, e2⟩ := x.d
    rw [e] at e2; cases e2
    exact hd _ _ rfl
  have cx : ∀ {M : Addr} {Γ : Vars}, Cx w base M Γ h → Cx w base M [] h' := fun c => by
    obtain ⟨m, ⟨o, es, ep, ho, hd, rest⟩, _⟩ := c.hv
    exact ⟨c.g, HBut.le (.of sb) c.le hN, c.above, m, ⟨o, es, ep, key ho (fun _ _ q => by rw [hd] at q; cases q), hd, rest⟩, fun _ _ e => by cases e⟩
  refine ⟨⟨cx x.a.x, x.a.d.but (.of sb) hl⟩, cx x.k, ?_, ?_, d, ?_, x.tv.tr fun v p t => t.list hl (.of sb)⟩
  · obtain ⟨o, e, ec, ed⟩ := x.it
    exact ⟨o, key e (fun _ _ q => by rw [ed] at q; cases q), ec, ed⟩
  · exact isList_but x.l (.of sb) hRN
  · have e : ins.take (j + 1) = ins.take j ++ [pj] := by rw [List.take_succ, hj]; rfl
    rw [e, List.map_append]
    exact Tys.snoc (ty.list hl (.of sb)) (x.ty.tr fun v p t => t.list hl (.of sb))
end
end Mine

end

/-! H6 -/
section
open PySem PySem.W PySem.Calls PyProof.Rows
set_option Elab.async false
set_option linter.unusedVariables false
set_option linter.unusedSectionVars false
namespace Mine
section
variable {w : World} {A : Around} {base : Heap} {L : Addr} {Γ : Vars} {env : Env} {E : Value → Shared → Prop} {s : Shared} {c : Addr} {dg : Nat} {p q r : Int × Int}

/-- x, y, z = [round_real(row[0], row[1], digits, _law_top) for row in rows] -/
theorem law_comp {Q : Flow → Shared → Prop} {scope : Scope} {px py pz pt q1 q2 q3 q4 q5 q6 q7 q8 q9 q10 q11 q12 q13 pos : Pos} {j1 j2 : Nat} (F : Fn env L) (kr : env.kindOf "rows" = some .local)
    (kx : env.kindOf "x" = some .local) (ky : env.kindOf "y" = some .local) (kz : env.kindOf "z" = some .local) (hclos : closureFor scope env = pure [(("digits" : Str), c)])
    (hcell : ∀ y ∈ scope.names, y.2 ≠ .cell) (hkind : scope.kind = .function) (hnames : ∀ x ∈ scope.names, x.2 = .local → scope.names.lookup x.1 = some .local)
    (k1 : ∀ C, (compEnvC scope [(("digits" : Str), c)] C env).kindOf "row" = some .local) (k2 : ∀ C, (compEnvC scope [(("digits" : Str), c)] C env).kindOf "digits" = some .cell)
    (k3 : ∀ C, (compEnvC scope [(("digits" : Str), c)] C env).kindOf "round_real" = some .globalImplicit) (k4 : ∀ C, (compEnvC scope [(("digits" : Str), c)] C env).kindOf "_law_top" = some .globalImplicit)
    (rm : Rm A 3) (o1 : Ok p dg) (o2 : Ok q dg) (o3 : Ok r dg) (x : Lx w base L [("rows", .rows p q r)] c (some dg) s.heap)
    (Qn : ∀ h' tk', Lx w base L [("x", .pair (rd3 dg p)), ("y", .pair (rd3 dg q)), ("z", .pair (rd3 dg r))] c (some dg) h' → Q .next { s with heap := h', toks := tk' }) :
    wpAny (model PR w) A (exec (.Assign [.Tuple [.Name "x" px, .Name "y" py, .Name "z" pz] 0 pt] (.ListComp (.Call (.Name "round_real" q1) [.Subscript (.Name "row" q2) (.Constant (.int 0) j1 q3) q4, .Subscript (.Name "row" q5) (.Constant (.int 1) j2 q6) q7, .Name "digits" q8, .Name "_law_top" q9] [] q10)
      [⟨.Name "row" q11, .Name "rows" q12, [], 0⟩] scope q13) pos) env) Q E s := by
  refine PyProof.Rows.Assign_Tuple ?_ (by rfl) (by rfl)
  rw [eval_ListComp]
  refine wpAny_comprehension_free (use := none) (cl := [(("digits" : Str), c)]) rfl (by intro _; rfl) hclos hkind hnames ?_
  refine (Ev.loc2 (w := w) (A := A) (base := base) (L := L) (Γ := [("rows", .rows p q r)]) (c := c) (i := some dg) (pos := q12) (x := "rows") F kr) s _ _ x fun v h1 tk1 l1 t1 => ?_
  have x1 := Lx.Mono x l1
  cases t1 with
  | @rows R o v1 v2 v3 n _ _ _ e1 e2 e3 t1 t2 t3 =>
  have hl1 : Heap.IsList h1 R #[v1, v2, v3] := ⟨o, e1, e2, n, e3⟩
  refine wpAny_pyIter_list hl1 (wpAny_newList (wpAny_newFunctionEnv hcell (by intro y hy; simp at hy) (fun h4 hns sb => ?_) hkind))
  dsimp only at hns sb ⊢
  generalize hH2 : h1.push { cls := .type "list_iterator", data := .fields #[.ref R, .int 0 0] } = H2 at hns sb ⊢
  generalize hH3 : H2.push { cls := .type "list", dict := none, data := .seq ([] : List Value).toArray } = H3 at hns sb ⊢
  have u12 : HLe h1 H2 := by rw [← hH2]; exact HLe.push _
  have u23 : HLe H2 H3 := by rw [← hH3]; exact HLe.push _
  have u34 : HLe H3 h4 := fun b o e => (sb.2 b (Nat.ne_of_lt (Heap.lt_size e))).trans (Heap.get?_push_of_some _ e)
  have u14 : HLe h1 h4 := u12.trans (u23.trans u34)
  have x2 := Lx.Mono x1 u12
  have x3 := Lx.Mono x2 u23
  have hI : base.get? h1.objs.size = none := Heap.get?_none_of_le x1.x.size
  have hN : base.get? H2.objs.size = none := Heap.get?_none_of_le x2.x.size
  have hC : base.get? H3.objs.size = none := Heap.get?_none_of_le x3.x.size
  have hLC : L ≠ H3.objs.size := by
    obtain ⟨m, n, _⟩ := x3.x.hv
    exact Nat.ne_of_lt n.lt
  have hRN : R ≠ H2.objs.size := Nat.ne_of_lt (Heap.lt_size (u12 _ _ e1))
  have hRI : R ≠ h1.objs.size := Nat.ne_of_lt (Heap.lt_size e1)
  have K0 : Kx w base L H3.objs.size c dg h1.objs.size R H2.objs.size [] #[v1, v2, v3] [] 0 0 [p, q, r] h4 := by
    refine ⟨⟨(x3.x.mono u34).sub (fun _ _ e => nomatch e), x3.d.mono u34⟩, ⟨x1.x.g, HLe.trans x3.x.le u34, x3.x.size, _, hns, (fun _ _ e => nomatch e)⟩, ?_, isList_mono hl1 u14, ?_, True.intro, ⟨t1.mono u14, t2.mono u14, t3.mono u14, True.intro⟩⟩
    · refine ⟨_, (u23.trans u34) _ _ (by rw [← hH2]; exact Heap.get?_push_size _ rfl), rfl, rfl⟩
    · exact ⟨0, u34 _ _ (by rw [← hH3]; exact Heap.get?_push_size _ rfl)⟩
  have Fc : Fn (compEnvC scope [(("digits" : Str), c)] H3.objs.size env) H3.objs.size := ⟨hkind, rfl, F.hg, F.hb⟩
  have W := Walks.list (prog := PR) (w := w) rm.hh h1.objs.size R hRI #[v1, v2, v3]
  have k1 := k1 H3.objs.size
  have k2 := k2 H3.objs.size
  have k3 := k3 H3.objs.size
  have k4 := k4 H3.objs.size
  have hlk : (compEnvC scope [(("digits" : Str), c)] H3.objs.size env).cells.lookup ("digits" : Str) = some c := by rfl
  have oks : ∀ (j : Nat) pj, [p, q, r][j]? = some pj → Ok pj dg := fun j pj e => by
    match j, e with
    | 0, e => cases e; exact o1
    | 1, e => cases e; exact o2
    | 2, e => cases e; exact o3
  have loop : codeAny (model PR w) A (.compLoop (.ListComp (.Call (.Name "round_real" q1) [.Subscript (.Name "row" q2) (.Constant (.int 0) j1 q3) q4, .Subscript (.Name "row" q5) (.Constant (.int 1) j2 q6) q7, .Name "digits" q8, .Name "_law_top" q9] [] q10)
      [⟨.Name "row" q11, .Name "rows" q12, [], 0⟩] scope q13) 0 (.ref h1.objs.size) (.ref H2.objs.size) (compEnvC scope [(("digits" : Str), c)] H3.objs.size env))
      (compPost (model PR w) A E none (fun v s₁ => wpAny (model PR w) A (assign (.Tuple [.Name "x" px, .Name "y" py, .Name "z" pz] 0 pt) env v) (fun _ => Q .next) E s₁) (.ref H2.objs.size) H3.objs.size) { s with heap := h4, toks := tk1 + ([] : List (Str × Value)).length } := by
    refine codeAny_compLoop_tests (fun n s' => ∃ (j : Nat) (h : Heap) (tk : Nat) (ys : List Value), j ≤ 3 ∧ n = 3 - j ∧ s' = { s with heap := h, toks := tk } ∧ ys.length = j ∧
      Kx w base L H3.objs.size c dg h1.objs.size R H2.objs.size [] #[v1, v2, v3] ys j j [p, q, r] h) ?_ 3 ⟨0, h4, _, [], by decide, rfl, rfl, rfl, K0⟩ (by intro _; rfl)
    rintro n _ ⟨j, h, tk, ys, hj, rfl, rfl, hys, K⟩
    by_cases hj3 : j < 3
    · refine W.item j _ _ _ hj3 ⟨K.it, K.l⟩ fun v h' tk' hv st hk => ?_
      obtain ⟨a1, a2, a3, a4, a5, a6⟩ := K.turn (fun b o hb e => hk b o (by simpa using hb) e) hI
      have K1 : Kx w base L H3.objs.size c dg h1.objs.size R H2.objs.size [] #[v1, v2, v3] ys j (j + 1) [p, q, r] h' := ⟨a1, a2, st.1, a3, a4, a5, a6⟩
      obtain ⟨pj, hpj, tv⟩ := Tys.get j v a6 (by simpa using hv)
      refine PyProof.Rows.assign_Name (st2 (d := .pair pj) a2 tv k1 Fc.hL Fc.hk fun h5 tk5 c5 _ sb5 _ => ?_)
      have K2 := K1.store sb5 c5 hLC hC
      have y5 : Lx w base H3.objs.size [("row", .pair pj)] c (some dg) h5 := ⟨c5, K2.a.d⟩
      refine wpAny_pure ?_
      rw [if_pos rfl]
      refine (Ev.callF (w := w) (A := A) (C := Lx w base H3.objs.size [("row", .pair pj)] c (some dg)) Lx.Mono (rm.less (by decide)) (Ev.of (C := Cx w base H3.objs.size [("row", .pair pj)]) (fun _ x => x.x) (Ev.glob at_rr.e Fc.hk k3 Fc.hg (by decide))) (o := oAt w 75) (fd := fAt w 75) (by rfl) (by rfl) (con_rr pj.1 pj.2 dg (by omega) (oks j pj hpj))
        (args4 Lx.Mono (Ev.item0 Lx.Mono (Ev.loc2 Fc k1)) (Ev.item1 Lx.Mono (Ev.loc2 Fc k1)) (Ev.dig Fc k2 hlk) (Ev.of (C := Cx w base H3.objs.size [("row", .pair pj)]) (fun _ x => x.x) (ev_top Fc k4)))) _ _ _ y5 fun y h6 tk6 l6 ty => ?_
      have K3 := K2.mono l6
      refine wpAny_list_append_plain K3.d (fun h7 pl sb7 => ?_) (by rw [List.size_toArray, sizeLine_eq]; omega)
      exact ⟨3 - (j + 1), by omega, j + 1, h7, tk6, ys ++ [y], by omega, rfl, rfl, by simp [hys], K3.append sb7 (by simpa using pl) ty hpj hRN hN⟩
    · have : j = 3 := by omega
      subst this
      refine W.done _ _ _ ⟨K.it, K.l⟩ fun h' tk' hk => ?_
      obtain ⟨a1, a2, a3, a4, a5, a6⟩ := K.turn (fun b o hb e => hk b o (by simpa using hb) e) hI
      obtain ⟨m, n, _⟩ := a2.hv
      refine ⟨m, n, fun h5 sb5 => ?_⟩
      have y5 := a1.frame sb5 n hLC hC
      have T5 : Tys h5 ys (([rd3 dg p, rd3 dg q, rd3 dg r]).map D.pair) := a5.tr fun v p t => t.same n sb5
      have l5 : h5.IsList H2.objs.size ys.toArray := by
        obtain ⟨nn, e⟩ := a4
        refine ⟨_, (sb5.2 _ ?_).trans e, rfl, nn, rfl⟩
        have : H2.objs.size < H3.objs.size := by rw [← hH3, Heap.size_push]; exact Nat.lt_succ_self _
        exact Nat.ne_of_lt this
      obtain ⟨w1, w2, w3, rfl, ty1, ty2, ty3⟩ := Tys.three T5
      refine assign_Tuple_list rm.hh l5 (by rfl) (by rfl) fun h6 ext => ?_
      have l6 := HLe.extBut ext
      have y6 := Lx.Mono y5 l6
      show wpAny _ _ (assignInOrder [assign (.Name "x" px) env, assign (.Name "y" py) env, assign (.Name "z" pz) env] [w1, w2, w3]) _ _ _
      refine assignInOrder_cons (PyProof.Rows.assign_Name (st2 (d := .pair (rd3 dg p)) y6.x (ty1.mono l6) kx F.hL F.hk fun h7 tk7 c7 t7 sb7 ⟨m7, n7⟩ => ?_))
      have d7 := y6.d.ns sb7 n7
      refine assignInOrder_cons (PyProof.Rows.assign_Name (st2 (d := .pair (rd3 dg q)) c7 (t7 _ _ (ty2.mono l6)) ky F.hL F.hk fun h8 tk8 c8 t8 sb8 ⟨m8, n8⟩ => ?_))
      have d8 := d7.ns sb8 n8
      refine assignInOrder_cons (PyProof.Rows.assign_Name (st2 (d := .pair (rd3 dg r)) c8 (t8 _ _ (t7 _ _ (ty3.mono l6))) kz F.hL F.hk fun h9 tk9 c9 t9 sb9 ⟨m9, n9⟩ => ?_))
      exact assignInOrder_nil (Qn h9 tk9 ⟨c9, d8.ns sb9 n9⟩)
  exact codeAny_compStart_list loop (W.self 0 _ _ _ ⟨K0.it, K0.l⟩ loop)
end
end Mine

end

/-! H7 -/
section
open PySem PySem.W PySem.Calls PyProof.Rows
set_option Elab.async false
set_option linter.unusedVariables false
set_option linter.unusedSectionVars false
namespace Mine
section
variable {w : World} {A : Around} {base : Heap} {L : Addr} {Γ : Vars} {env : Env} {E : Value → Shared → Prop} {s : Shared} {c : Addr} {dg : Nat} {X Y Z : Int × Int}
theorem Ev.fn2 {i : Option Int} {x : Str} {p pos : Pos} {e : Expr} {rest : List Expr} {f : Addr} {k l : Nat} {ds : List D} {R : Heap → Value → Prop} (F : Fn env L) (kx : env.kindOf x = some .globalImplicit) (at' : At w x f) (r : Rm A l)
    (hc : Con w f k ds R) (ha : EvL w A (Lx w base L Γ c i) (spliced (backTo pos (starEach (e :: rest) env))) ds) (hkl : k ≤ l := by decide)
    (he : starEach (e :: rest) env = (false, eval e env) :: starEach rest env := by rfl) :
    Ev w A (Lx w base L Γ c i) (eval (.Call (.Name x p) (e :: rest) [] pos) env) R := by
  obtain ⟨o, fd, ho, hd⟩ := at'.o
  exact Ev.callF Lx.Mono (r.less hkl) (Ev.of (C := Cx w base L Γ) (fun _ x => x.x) (Ev.glob at'.e F.hk kx F.hg at'.b)) ho hd hc ha he
theorem at_prods : At w "_law_products_right" 182 := ⟨by rfl, ⟨oAt w 182, fAt w 182, by rfl, by rfl⟩, by decide⟩

/-- the order's test, and the law's answer -/
theorem law_end {Q : Flow → Shared → Prop} {p1 p2 p3 p4 p5 p6 p7 p8 p9 p10 p11 p12 p13 p14 p15 p16 p17 p18 p19 p20 p21 p22 p23 p24 p25 p26 p27 p28 p29 p30 p31 p32 p33 p34 : Pos} {j1 j2 j3 : Nat} {rest : List Stmt}
    (F : Fn env L) (kx : env.kindOf "x" = some .local) (ky : env.kindOf "y" = some .local) (kz : env.kindOf "z" = some .local) (kd : env.kindOf "digits" = some .cell) (hc : env.cells.lookup ("digits" : Str) = some c)
    (kc : env.kindOf "real_compare" = some .globalImplicit) (ks : env.kindOf "_law_sums_right" = some .globalImplicit) (kp : env.kindOf "_law_products_right" = some .globalImplicit)
    (rm : Rm A 5) (hf : env.frame = some L) (hfr : A.frames = some [env]) (sX : Sm X) (sY : Sm Y) (sZ : Sm Z)
    (ho : (decide (cp X Y ≤ 0) && (decide (cp Y Z ≤ 0) && decide (0 < cp X Z))) = false) (hs : SumsOk X Y Z dg) (hp : ProdsOk X Y Z dg)
    (x : Lx w base L [("x", .pair X), ("y", .pair Y), ("z", .pair Z)] c (some dg) s.heap)
    (Qn : ∀ h' tk', HLe base h' → Q (.ret (.bool true)) { s with heap := h', toks := tk' }) :
    wpAny (model PR w) A (execs [.If (.BoolOp .And [.Compare (.Call (.Name "real_compare" p1) [.Name "x" p2, .Name "y" p3] [] p4) [.LtE] [.Constant (.int 0) j1 p5] p6,
      .Compare (.Call (.Name "real_compare" p7) [.Name "y" p8, .Name "z" p9] [] p10) [.LtE] [.Constant (.int 0) j2 p11] p12,
      .Compare (.Call (.Name "real_compare" p13) [.Name "x" p14, .Name "z" p15] [] p16) [.Gt] [.Constant (.int 0) j3 p17] p18] p19) rest [] p20,
      .Return (some (.BoolOp .And [.Call (.Name "_law_sums_right" p21) [.Name "x" p22, .Name "y" p23, .Name "z" p24, .Name "digits" p25] [] p26,
        .Call (.Name "_law_products_right" p27) [.Name "x" p28, .Name "y" p29, .Name "z" p30, .Name "digits" p31] [] p32] p33)) p34] env) Q E s := by
  have vX : ∀ {pos : Pos}, Ev w A (Lx w base L [("x", .pair X), ("y", .pair Y), ("z", .pair Z)] c (some dg)) (eval (.Name "x" pos) env) (Is (.pair X)) := fun {_} => Ev.loc2 F kx
  have vY : ∀ {pos : Pos}, Ev w A (Lx w base L [("x", .pair X), ("y", .pair Y), ("z", .pair Z)] c (some dg)) (eval (.Name "y" pos) env) (Is (.pair Y)) := fun {_} => Ev.loc2 F ky
  have vZ : ∀ {pos : Pos}, Ev w A (Lx w base L [("x", .pair X), ("y", .pair Y), ("z", .pair Z)] c (some dg)) (eval (.Name "z" pos) env) (Is (.pair Z)) := fun {_} => Ev.loc2 F kz
  have vD : ∀ {pos : Pos}, Ev w A (Lx w base L [("x", .pair X), ("y", .pair Y), ("z", .pair Z)] c (some dg)) (eval (.Name "digits" pos) env) (Is (.int dg)) := fun {_} => Ev.dig F kd hc
  refine wpAny_execs_cons (wpAny_If ((EvB.eq (EvB.and Lx.Mono (EvB.cmp Lx.Mono (Ev.fn2 F kc at_cp rm (con_cp X Y sX sY) (args2 Lx.Mono vX vY)) Ev.int (fun s a b Q E => cp_le)) fun _ =>
    EvB.and Lx.Mono (EvB.cmp Lx.Mono (Ev.fn2 F kc at_cp rm (con_cp Y Z sY sZ) (args2 Lx.Mono vY vZ)) Ev.int (fun s a b Q E => cp_le)) fun _ =>
    EvB.and Lx.Mono (EvB.cmp Lx.Mono (Ev.fn2 F kc at_cp rm (con_cp X Z sX sZ) (args2 Lx.Mono vX vZ)) Ev.int (fun s a b Q E => cp_gt)) fun _ => EvB.andNil) (d' := false) ?_) _ _ _ x fun h1 tk1 l1 => ?_))
  · rw [Bool.and_true]; exact ho
  have x1 := Lx.Mono x l1
  refine wpAny_execs_nil (wpAny_execs_cons (wpAny_Return_some (BoolOp_and ((Ev.fn2 F ks at_sums rm (con_sums X Y Z dg hs) (args4 Lx.Mono vX vY vZ vD)) _ _ _ x1 fun v h2 tk2 l2 t2 => ?_))))
  cases t2
  refine wpAny_truthy_bool ?_
  have x2 := Lx.Mono x1 l2
  refine BoolOp_one (Call_ ((Ev.glob (w := w) (A := A) (h₀ := base) (L := L) (Γ := [("x", .pair X), ("y", .pair Y), ("z", .pair Z)]) at_prods.e F.hk kp F.hg (by decide)) _ _ _ x2.x fun v h3 tk3 l3 ⟨hv, g3⟩ => ?_))
  subst hv
  refine callWith_def (o := oAt w 182) (fd := fAt w 182) (by rfl) ((args4 Lx.Mono vX vY vZ vD) _ _ _ (Lx.Mono x2 l3) fun vs h4 tk4 l4 t4 => ?_) (by rfl)
  have x4 := Lx.Mono (Lx.Mono x2 l3) l4
  refine ⟨(g3.keeps l4).1 _ _ (by rfl), con_prods rm x4.x.g x4.x.le x4.x.size hfr ?_ X Y Z dg hp t4 Qn⟩
  refine ⟨by rw [F.hk]; decide, ?_, trivial⟩
  obtain ⟨m, ⟨o, es, ep, ho, hd, _⟩, _⟩ := x4.x.hv
  exact ⟨L, o, hf, Heap.get?_none_of_le x4.x.above, ho, fun vs q => by rw [hd] at q; cases q⟩
end
end Mine

end

/-! H8 -/
section
open PySem PySem.W PySem.Calls PyProof.Rows
set_option Elab.async false
set_option linter.unusedVariables false
set_option linter.unusedSectionVars false
namespace Mine
noncomputable def lawScope : Scope := match (PySem.Challenge.pw_sa0207_01.main.body)[(28 : Nat)]? with
  | some (.FunctionDef _ _ _ _ _ _ sc _ _ _) => sc
  | _ => default
noncomputable def rowScope : Scope := match bodyAt 28 with
  | _ :: _ :: _ :: _ :: _ :: .Assign _ (.ListComp _ _ sc _) _ :: _ => sc
  | _ => default
section
variable {w : World} {A : Around} {base : Heap} {L : Addr} {Γ : Vars} {env : Env} {E : Value → Shared → Prop} {s : Shared} {c : Addr}
theorem law_body {a : Addr} {vs : List Value} {xs : List Int} {Q : Flow → Shared → Prop} (F : Fn env L) (k1 : env.kindOf "script" = some .local) (k2 : env.kindOf "bag" = some .local) (k3 : env.kindOf "digits" = some .cell) (k4 : env.kindOf "rows" = some .local) (k5 : env.kindOf "turn" = some .local)
    (k6 : env.kindOf "x" = some .local) (k7 : env.kindOf "y" = some .local) (k8 : env.kindOf "z" = some .local) (g1 : env.kindOf "_law_grain" = some .globalImplicit) (g2 : env.kindOf "_law_long" = some .globalImplicit) (g3 : env.kindOf "range" = some .globalImplicit)
    (g4 : env.kindOf "_law_rounds_right" = some .globalImplicit) (g5 : env.kindOf "real_compare" = some .globalImplicit) (g6 : env.kindOf "_law_sums_right" = some .globalImplicit) (g7 : env.kindOf "_law_products_right" = some .globalImplicit)
    (hc : env.cells.lookup ("digits" : Str) = some c) (hclos : closureFor rowScope env = pure [(("digits" : Str), c)])
    (c1 : ∀ C, (compEnvC rowScope [(("digits" : Str), c)] C env).kindOf "row" = some .local) (c2 : ∀ C, (compEnvC rowScope [(("digits" : Str), c)] C env).kindOf "digits" = some .cell)
    (c3 : ∀ C, (compEnvC rowScope [(("digits" : Str), c)] C env).kindOf "round_real" = some .globalImplicit) (c4 : ∀ C, (compEnvC rowScope [(("digits" : Str), c)] C env).kindOf "_law_top" = some .globalImplicit)
    (rm : Rm A 5) (hf : env.frame = some L) (hfr : A.frames = some [env])
    (hcb : base.get? c = none) (hl : base.IsList a vs.toArray) (hi : IntsAre vs xs) (hx : xs.length ≤ 63) (C : Cx w base L [("script", .adr a)] s.heap) (d : CellO s.heap c none)
    (hQ : ∀ h' tk', HLe base h' → Q (.ret (.bool true)) { s with heap := h', toks := tk' }) :
    wpAny (model PR w) A (execs (bodyAt 28) env) Q E s := by
  refine wpAny_execs_cons (law_bag F k1 k2 hl hi hx C d fun h1 tk1 B l js hB h20 x1 => ?_)
  refine wpAny_execs_cons (law_digits F k2 k3 g1 hc hcb (rm.less (by decide)) hB h20 (by decide) rfl x1 fun h2 tk2 dg d3 d7 x2 => ?_)
  refine wpAny_execs_cons (law_rows F k2 k4 g2 (rm.less (by decide)) hB h20 (by decide) rfl x2 fun h3 tk3 R p q r hR wp wq wr T3 x3 => ?_)
  refine wpAny_execs_cons (law_if F k2 k4 g1 (rm.less (by decide)) hB h20 (by decide) wp wq hR T3 x3 fun h4 tk4 q' wq' x4 => ?_)
  have hd : 1 ≤ dg := by omega
  have Xp := wp.rw.rd (dg := dg) hd
  have Xq := wq'.rd (dg := dg) hd
  have Xr := wr.rw.rd (dg := dg) hd
  refine wpAny_execs_cons (law_for F k4 k5 k3 hc g3 g4 (rm.less (by decide)) (rounds_ok wp.rw wq' hd d7) (rounds_ok wq' wr.rw hd d7) (rounds_ok wr.rw wp.rw hd d7) x4 fun h5 tk5 x5 => ?_)
  refine wpAny_execs_cons (law_comp (scope := rowScope) F k4 k6 k7 k8 hclos ?_ (by rfl) ?_ c1 c2 c3 c4 (rm.less (by decide)) (wp.rw.gd.ok hd) (wq'.gd.ok hd) (wr.rw.gd.ok hd) x5 fun h6 tk6 x6 => ?_)
  · intro z hz
    have := List.all_eq_true.mp (show (rowScope.names.all fun x => !decide (x.2 = .cell)) = true by rfl) z hz
    simpa using this
  · intro z hz hzl
    have := List.all_eq_true.mp (show (rowScope.names.all fun x => decide (x.2 = .local → rowScope.names.lookup x.1 = some .local)) = true by rfl) z hz
    exact of_decide_eq_true this hzl
  exact law_end F k6 k7 k8 k3 hc g5 g6 g7 rm hf hfr (Xp.sm hd d7) (Xq.sm hd d7) (Xr.sm hd d7) (order_ok Xp Xq Xr) (sums_ok Xp Xq Xr hd d7) (prods_ok Xp Xq Xr hd d7) x6 hQ
end
theorem room_caller : Rm callerA 6 := ⟨rfl, by decide, by decide⟩

theorem law_walk {w : World} {s₁ : Shared} {fa : Addr} {name : Str} {cd : Value} {a : Addr} {vs : List Value} {xs : List Int} {mean : ExcName → Option Value} {mg mb : Str → Option Value} {m : Str → Option Value} {h₁ : Heap} {tk₁ : Nat} {cw : Obj}
    {Q : Flow → Shared → Prop} {E : Value → Shared → Prop} (hl : s₁.heap.IsList a vs.toArray) (hi : IntsAre vs xs) (hx : ¬ (63 : Int) < xs.length) (KX : (hd.heap_39 w.params).In s₁.heap) (T : Top hd.view_39 (looseW hd.view_39 []) mean mg mb s₁.heap)
    (F : Fr s₁.heap s₁.heap.objs.size h₁ m) (N : News s₁.heap s₁.heap.objs.size h₁ [(s₁.heap.objs.size + 1, cw)]) (hcw : cw.data = .cell none) (hm : m "script" = some (.ref a))
    (hQ : ∀ h' tk', HLe s₁.heap h' → Q (.ret (.bool true)) { s₁ with heap := h', toks := tk' }) :
    wpAny (model PR w) (callerA.deeper (envOfC name lawScope s₁.heap.objs.size fa cd)) (execs (bodyAt 28) (envOfC name lawScope s₁.heap.objs.size fa cd)) Q E { heap := h₁, gens := s₁.gens, drawn := s₁.drawn, toks := tk₁, os := s₁.os } := by
  have hN := N (s₁.heap.objs.size + 1, cw) (List.mem_singleton.mpr rfl)
  refine law_body (base := s₁.heap) (L := s₁.heap.objs.size) (c := s₁.heap.objs.size + 1) (vs := vs) (xs := xs) (a := a) ⟨by rfl, by rfl, by rfl, by rfl⟩ (by rfl) (by rfl) (by rfl) (by rfl) (by rfl) (by rfl) (by rfl) (by rfl) (by rfl) (by rfl) (by rfl) (by rfl) (by rfl) (by rfl) (by rfl)
    (by rfl) (by rfl) (fun _ => by rfl) (fun _ => by rfl) (fun _ => by rfl) (fun _ => by rfl) room_caller.deeper (by rfl) (Around.frames_deeper rfl) hN.2.2 hl hi (by omega) ⟨⟨KX, _, _, _, T⟩, F.keep, Nat.le_refl _, m, F.ns, fun y d e => ?_⟩ ⟨cw, hN.1, hcw⟩ hQ
  simp only [List.lookup] at e
  cases hy : y == ("script" : Str) with
  | true =>
    rw [hy] at e
    cases e
    have : y = ("script" : Str) := by simpa using hy
    subst this
    exact ⟨_, hm, .adr _⟩
  | false => rw [hy] at e; cases e
end Mine

end

open PySem PySem.W PyProof.Rows
set_option Elab.async false
set_option maxRecDepth 100000 in
set_option maxHeartbeats 8000000 in
theorem PySem.Challenge.cw_sa0207_01_holds : PySem.Challenge.rw_sa0207_01.Holds := by
  exact Mine.hd (by
    k_go0
    (all_goals try k_fold)
    refine Mine.law_walk (by assumption) (by assumption) (by assumption) (by assumption) (by assumption) (by assumption) (by assumption) (by assumption) (by rfl) (fun h' tk' le => ?_)
    refine ⟨.inl ⟨_, .bool true, [], rfl, raisesW_false ?_, .bool true, ?_, PyProof.Rows.unshared_nil⟩, le, rfl, by assumption⟩
    · wrow_none_raised
    · wrow_post)
