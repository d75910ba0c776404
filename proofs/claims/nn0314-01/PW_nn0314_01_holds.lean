import PyProof.Rows.All
import Wide.All
import OpenK.AllK
import Wide.FinOn
import PySem.Challenge.RW_nn0314_01
open PySem PySem.W PyProof.Rows PySem.Calls
set_option Elab.async false
set_option maxRecDepth 100000
set_option maxHeartbeats 8000000
set_option linter.all false
namespace Mine
-- Head
section
set_option synthInstance.maxSize 1 in
open_top hd for PySem.Challenge.rw_nn0314_01
end
-- L1
section

/-! ### token-free values, cells, abstract heaps -/
def er : Value → Value
  | .int i _ => .int i 0
  | .float b _ => .float b 0
  | .str s _ => .str s 0
  | .bytes b _ => .bytes b 0
  | v => v
abbrev vi (i : Int) : Value := .int i 0
abbrev vb (b : Bool) : Value := .bool b
theorem er_int {v : Value} {i : Int} (h : er v = vi i) : ∃ t, v = .int i t := by
  cases v <;> simp [er] at h; exact ⟨_, by rw [h]⟩
theorem er_ref {v : Value} {x : Addr} (h : er v = .ref x) : v = .ref x := by
  cases v <;> simp [er] at h; rw [h]
theorem er_bool {v : Value} {b : Bool} (h : er v = .bool b) : v = .bool b := by
  cases v <;> simp [er] at h; rw [h]
theorem er_none {v : Value} (h : er v = .none) : v = .none := by
  cases v <;> simp [er] at h; rfl
theorem er_builtin {v : Value} {n : String} (h : er v = .builtin n) : v = .builtin n := by
  cases v <;> simp [er] at h; rw [h]
theorem er_type {v : Value} {n : String} (h : er v = .type n) : v = .type n := by
  cases v <;> simp [er] at h; rw [h]
theorem er_er (v : Value) : er (er v) = er v := by cases v <;> rfl
def erF : Flow → Flow
  | .ret v => .ret (er v)
  | f => f

inductive Cell where
  | list (vs : List Value)
  | tuple (vs : List Value)
  | inst (C d : Addr)
  | attrs (fs : List (Str × Value))
  | cell (v : Option Value)
  | range (lo hi : Int)

inductive AR : List DictEntry → List (Str × Value) → Prop
  | nil : AR [] []
  | cons {h : Int} {x : Str} {t : Tok} {v : Value} {es : List DictEntry} {fs : List (Str × Value)} : AR es fs → AR (⟨h, .str x t, v⟩ :: es) ((x, er v) :: fs)

def CellAt : Cell → Obj → Prop
  | .list vs, o => ∃ its n, o = { cls := .type "list", data := .seq its n } ∧ its.toList.map er = vs
  | .tuple vs, o => ∃ its n, o = { cls := .type "tuple", data := .seq its n } ∧ its.toList.map er = vs
  | .inst C d, o => o = instObj C d
  | .attrs fs, o => ∃ es n, o = dictOf es n ∧ fs.length ≤ 500 ∧ AR es fs
  | .cell v, o => ∃ v', o.data = .cell v' ∧ v'.map er = v
  | .range lo hi, o => ∃ t u v, o = { cls := .type "range", data := .fields #[.int lo t, .int hi u, .int 1 v] }

abbrev AHeap := Addr → Option Cell
def AHeap.set (H : AHeap) (a : Addr) (c : Cell) : AHeap := fun b => if b = a then some c else H b
theorem AHeap.set_same (H : AHeap) (a : Addr) (c : Cell) : H.set a c a = some c := by simp [AHeap.set]
theorem AHeap.set_ne (H : AHeap) {a b : Addr} (c : Cell) (h : b ≠ a) : H.set a c b = H b := by simp [AHeap.set, h]
abbrev Loc := Str → Option Value
def Loc.set (m : Loc) (x : Str) (v : Value) : Loc := fun y => if y = x then some v else m y
theorem Loc.set_same (m : Loc) (x : Str) (v : Value) : m.set x v x = some v := by simp [Loc.set]
theorem Loc.set_ne (m : Loc) {x y : Str} (v : Value) (h : (y == x) = false) : m.set x v y = m y := by
  simp only [Loc.set]; rw [if_neg]; intro e; subst e; simp at h
theorem Loc.skip {m : Loc} {x y : Str} {v : Value} {r : Option Value} (h : (y == x) = false) (e : m y = r) : m.set x v y = r := (Loc.set_ne m v h).trans e

/-! ### the surroundings -/
structure Amb (KF : Params → Frag) where
  prog : Program
  w : World
  h₀ : Heap
  X : (KF w.params).In h₀
  mg : Str → Option Value
  mb : Str → Option Value
  G : h₀.Ns mainGlobals mg
  B : h₀.Ns builtinsNs mb
  bi : ∀ x : Str, x ≠ ("__name__" : Str) → mb x = bootBuiltins x
  lim : h₀.NoLimit

structure Rm (A : Around) (d : Nat) : Prop where
  handled : A.handled = none
  depth : A.depth + d ≤ 900
  units : A.units + 20 * d ≤ 9000
theorem Rm.in1 {A : Around} {d : Nat} (r : Rm A (d + 1)) : Rm A.in1 d := ⟨r.handled, by have := r.depth; simp; (first | lia | omega), by have := r.units; simp; (first | lia | omega)⟩
theorem Rm.deeper {A : Around} {d : Nat} (r : Rm A (d + 1)) (env : Env) : Rm (A.deeper env) d := ⟨r.handled, by have := r.depth; simp [Around.deeper]; (first | lia | omega), by have := r.units; simp [Around.deeper]; (first | lia | omega)⟩
theorem Rm.le {A : Around} {d d' : Nat} (r : Rm A d) (h : d' ≤ d) : Rm A d' := ⟨r.handled, by have := r.depth; (first | lia | omega), by have := r.units; (first | lia | omega)⟩
theorem Rm.depth' {A : Around} {d : Nat} (r : Rm A d) : A.depth < recursionLimit := by have := r.depth; unfold recursionLimit; (first | lia | omega)
theorem Rm.units' {A : Around} {d : Nat} (r : Rm A d) : A.units < cLine := by have := r.units; rw [cLine_is]; (first | lia | omega)

variable {KF : Params → Frag}
structure St (a : Amb KF) (L : Addr) (m : Loc) (H : AHeap) (s : Shared) : Prop where
  fr : ∃ mv, Fr a.h₀ L s.heap mv ∧ ∀ x, (mv x).map er = m x
  cells : ∀ b c, H b = some c → b ≠ L ∧ a.h₀.get? b = none ∧ ∃ o, s.heap.get? b = some o ∧ CellAt c o

structure Step (L : Addr) (H : AHeap) (s : Shared) (H' : AHeap) (s' : Shared) : Prop where
  keep : ∀ b o, b ≠ L → H b = none → s.heap.get? b = some o → s'.heap.get? b = some o ∧ H' b = none
  gens : s'.gens = s.gens
  os : s'.os = s.os
theorem Step.refl (L : Addr) (H : AHeap) (s : Shared) : Step L H s H s := ⟨fun _ _ _ h e => ⟨e, h⟩, rfl, rfl⟩
theorem Step.trans {L : Addr} {H H₁ H₂ : AHeap} {s s₁ s₂ : Shared} (x : Step L H s H₁ s₁) (y : Step L H₁ s₁ H₂ s₂) : Step L H s H₂ s₂ :=
  ⟨fun b o hb h e => let ⟨e₁, h₁⟩ := x.keep b o hb h e; y.keep b o hb h₁ e₁, y.gens.trans x.gens, y.os.trans x.os⟩
theorem Step.toks {L : Addr} {H : AHeap} {s s' : Shared} (h : s'.heap = s.heap) (hg : s'.gens = s.gens) (ho : s'.os = s.os) : Step L H s H s' :=
  ⟨fun b o _ hb e => ⟨by rw [h]; exact e, hb⟩, hg, ho⟩
theorem St.toks {a : Amb KF} {L : Addr} {m : Loc} {H : AHeap} {s s' : Shared} (S : St a L m H s) (h : s'.heap = s.heap) : St a L m H s' :=
  ⟨by rw [h]; exact S.fr, fun b c hb => by rw [h]; exact S.cells b c hb⟩

/-- a tree, run in a frame: from the abstract heap H it ends in Q -/
def J (a : Amb KF) (A : Around) {α β : Type} (f : α → β) (L : Addr) (m : Loc) (t : Sem α) (H : AHeap) (Q : β → AHeap → Prop) : Prop :=
  ∀ s, St a L m H s → wpAny (model a.prog a.w) A t (fun v s' => ∃ H', St a L m H' s' ∧ Step L H s H' s' ∧ Q (f v) H') (fun _ _ => False) s
/-- statements: the frame's names may turn -/
def JS (a : Amb KF) (A : Around) (L : Addr) (m : Loc) (t : Sem Flow) (H : AHeap) (Q : Flow → Loc → AHeap → Prop) : Prop :=
  ∀ s, St a L m H s → wpAny (model a.prog a.w) A t (fun v s' => ∃ m' H', St a L m' H' s' ∧ Step L H s H' s' ∧ Q (erF v) m' H') (fun _ _ => False) s
/-- assignments -/
def JU (a : Amb KF) (A : Around) (L : Addr) (m : Loc) (t : Sem Unit) (H : AHeap) (Q : Loc → AHeap → Prop) : Prop :=
  ∀ s, St a L m H s → wpAny (model a.prog a.w) A t (fun _ s' => ∃ m' H', St a L m' H' s' ∧ Step L H s H' s' ∧ Q m' H') (fun _ _ => False) s

section
variable {a : Amb KF} {A : Around} {α β γ δ : Type} {f : α → β} {g : γ → δ} {L : Addr} {m : Loc} {H : AHeap}
theorem J.mono {t : Sem α} {Q Q' : β → AHeap → Prop} (h : J a A f L m t H Q) (q : ∀ v H', Q v H' → Q' v H') : J a A f L m t H Q' :=
  fun s S => wpAny_mono (h s S) (fun _ _ ⟨H', S', T, x⟩ => ⟨H', S', T, q _ _ x⟩) fun _ _ x => x
theorem JS.mono {t : Sem Flow} {Q Q' : Flow → Loc → AHeap → Prop} (h : JS a A L m t H Q) (q : ∀ v m' H', Q v m' H' → Q' v m' H') : JS a A L m t H Q' :=
  fun s S => wpAny_mono (h s S) (fun _ _ ⟨m', H', S', T, x⟩ => ⟨m', H', S', T, q _ _ _ x⟩) fun _ _ x => x
theorem J.pure {v : α} {Q : β → AHeap → Prop} (h : Q (f v) H) : J a A f L m (pure v) H Q := fun s S => wpAny_pure ⟨H, S, Step.refl .., h⟩

/-- the continuation behind a tree -/
theorem J.then {t : Sem α} {Q : β → AHeap → Prop} {P : α → Shared → Prop} {s : Shared} (h : J a A f L m t H Q) (S : St a L m H s)
    (k : ∀ v s' H', St a L m H' s' → Step L H s H' s' → Q (f v) H' → P v s') : wpAny (model a.prog a.w) A t P (fun _ _ => False) s :=
  wpAny_mono (h s S) (fun v s' ⟨H', S', T, x⟩ => k v s' H' S' T x) fun _ _ x => x
/-- to carry on a post -/
theorem J.carry {t : Sem α} {Q : β → AHeap → Prop} {H₁ : AHeap} {s s₁ : Shared} (h : J a A f L m t H₁ Q) (S₁ : St a L m H₁ s₁) (T : Step L H s H₁ s₁) :
    wpAny (model a.prog a.w) A t (fun v s' => ∃ H', St a L m H' s' ∧ Step L H s H' s' ∧ Q (f v) H') (fun _ _ => False) s₁ :=
  wpAny_mono (h s₁ S₁) (fun _ _ ⟨H', S', T', x⟩ => ⟨H', S', T.trans T', x⟩) fun _ _ x => x
theorem JS.carry {t : Sem Flow} {Q : Flow → Loc → AHeap → Prop} {H₁ : AHeap} {m₁ : Loc} {s s₁ : Shared} (h : JS a A L m₁ t H₁ Q) (S₁ : St a L m₁ H₁ s₁) (T : Step L H s H₁ s₁) :
    wpAny (model a.prog a.w) A t (fun v s' => ∃ m' H', St a L m' H' s' ∧ Step L H s H' s' ∧ Q (erF v) m' H') (fun _ _ => False) s₁ :=
  wpAny_mono (h s₁ S₁) (fun _ _ ⟨m', H', S', T', x⟩ => ⟨m', H', S', T.trans T', x⟩) fun _ _ x => x
theorem JU.carry {t : Sem Unit} {Q : Loc → AHeap → Prop} {H₁ : AHeap} {m₁ : Loc} {s s₁ : Shared} (h : JU a A L m₁ t H₁ Q) (S₁ : St a L m₁ H₁ s₁) (T : Step L H s H₁ s₁) :
    wpAny (model a.prog a.w) A t (fun _ s' => ∃ m' H', St a L m' H' s' ∧ Step L H s H' s' ∧ Q m' H') (fun _ _ => False) s₁ :=
  wpAny_mono (h s₁ S₁) (fun _ _ ⟨m', H', S', T', x⟩ => ⟨m', H', S', T.trans T', x⟩) fun _ _ x => x
theorem J.bind {t : Sem α} {k : α → Sem γ} {Q : δ → AHeap → Prop} (h : J a A f L m t H (fun b H₁ => ∀ v, f v = b → J a A g L m (k v) H₁ Q)) :
    J a A g L m (t >>= k) H Q :=
  fun _ S => wpAny_bind (h.then S fun v _ _ S' T' q => (q v rfl).carry S' T')

/-! ### expressions -/
variable {env : Env} {Q : Value → AHeap → Prop}
abbrev JE (a : Amb KF) (A : Around) (L : Addr) (m : Loc) (t : Sem Value) (H : AHeap) (Q : Value → AHeap → Prop) : Prop := J a A er L m t H Q
abbrev JB (a : Amb KF) (A : Around) (L : Addr) (m : Loc) (t : Sem Bool) (H : AHeap) (Q : Bool → AHeap → Prop) : Prop := J a A (fun b : Bool => b) L m t H Q

theorem e_local {x : Str} {pos : Pos} {v : Value} (hL : env.locals = L) (hk : env.scope.kind = .function) (hx : env.kindOf x = some .local) (hd : (x == ("__debug__" : Str)) = false) (hm : m x = some v) (h : Q v H) :
    JE a A L m (eval (.Name x pos) env) H Q := by
  subst hL
  intro s S
  obtain ⟨mv, F, e⟩ := S.fr
  have hv := e x
  rw [hm] at hv
  obtain ⟨v', h1, h2⟩ := Option.map_eq_some_iff.mp hv
  exact wpAny_Name (wpAny_loadName_local hk hx F.ns h1 ⟨H, S, Step.refl .., by rw [h2]; exact h⟩) hd
theorem isCell_of {s : Shared} {c : Addr} {v : Option Value} (S : St a L m H s) (h : H c = some (.cell v)) : ∃ v', s.heap.IsCell c v' ∧ v'.map er = v := by
  obtain ⟨_, _, o, ho, v', hd, e⟩ := S.cells _ _ h
  exact ⟨v', ⟨o, ho, hd⟩, e⟩
theorem e_cell {x : Str} {pos : Pos} {c : Addr} {v : Value} (hk : env.scope.kind = .function) (hx : env.kindOf x = some .cell) (hd : (x == ("__debug__" : Str)) = false) (hc : env.cells.lookup x = some c)
    (hm : H c = some (.cell (some v))) (h : Q v H) : JE a A L m (eval (.Name x pos) env) H Q := by
  intro s S
  obtain ⟨v', h1, h2⟩ := isCell_of S hm
  obtain ⟨v'', rfl, h3⟩ := Option.map_eq_some_iff.mp h2
  exact wpAny_Name (wpAny_loadName_cell hk hx hc h1 ⟨H, S, Step.refl .., by rw [h3]; exact h⟩) hd
theorem e_free {x : Str} {pos : Pos} {c : Addr} {v : Value} (hk : env.scope.kind = .function) (hx : env.kindOf x = some .free) (hd : (x == ("__debug__" : Str)) = false) (hd2 : (x == ("__classdict__" : Str)) = false) (hc : env.cells.lookup x = some c)
    (hm : H c = some (.cell (some v))) (h : Q v H) : JE a A L m (eval (.Name x pos) env) H Q := by
  intro s S
  obtain ⟨v', h1, h2⟩ := isCell_of S hm
  obtain ⟨v'', rfl, h3⟩ := Option.map_eq_some_iff.mp h2
  exact wpAny_Name (wpAny_loadName_free hk hx hc h1 ⟨H, S, Step.refl .., by rw [h3]; exact h⟩ hd2) hd
theorem St.keep {s : Shared} (S : St a L m H s) : ∀ b o, a.h₀.get? b = some o → s.heap.get? b = some o := by
  obtain ⟨mv, F, _⟩ := S.fr; exact F.keep
theorem St.X {s : Shared} (S : St a L m H s) : (KF a.w.params).In s.heap := a.X.keeps S.keep
theorem e_global {x : Str} {pos : Pos} {v : Value} (hk : env.scope.kind = .function) (hx : env.kindOf x = some .globalImplicit) (hd : (x == ("__debug__" : Str)) = false) (hg : env.globals = mainGlobals)
    (e : nsIn (KF a.w.params) mainGlobals x = some (some v)) (h : Q (er v) H) : JE a A L m (eval (.Name x pos) env) H Q := by
  intro s S
  refine Name_function_global hk hx (loadGlobal_global (mg := a.mg) ?_ (mg_of a.X a.G e) ⟨H, S, Step.refl .., h⟩) hd
  rw [hg]; exact a.G.keeps S.keep
theorem e_builtin {x : Str} {pos : Pos} {v : Value} (hk : env.scope.kind = .function) (hx : env.kindOf x = some .globalImplicit) (hd : (x == ("__debug__" : Str)) = false) (hg : env.globals = mainGlobals) (hb : env.builtins = builtinsNs)
    (e : nsIn (KF a.w.params) mainGlobals x = some none) (hv : bootBuiltins x = some v) (hn : x ≠ ("__name__" : Str)) (h : Q (er v) H) : JE a A L m (eval (.Name x pos) env) H Q := by
  intro s S
  refine Name_function_global hk hx (loadGlobal_builtin (mg := a.mg) (mb := a.mb) ?_ (mg_none_of a.X a.G e) ?_ ((a.bi x hn).trans hv) ⟨H, S, Step.refl .., h⟩) hd
  · rw [hg]; exact a.G.keeps S.keep
  · rw [hb]; exact a.B.keeps S.keep
theorem e_int {i : Int} {k : Nat} {pos : Pos} (h : Q (vi i) H) : JE a A L m (eval (.Constant (.int i) k pos) env) H Q :=
  fun _ S => wpAny_Constant_int ⟨H, S.toks rfl, Step.toks rfl rfl rfl, h⟩
theorem e_bool {b : Bool} {k : Nat} {pos : Pos} (h : Q (vb b) H) : JE a A L m (eval (.Constant (.bool b) k pos) env) H Q :=
  fun _ S => wpAny_pure ⟨H, S, Step.refl .., h⟩
theorem e_none {k : Nat} {pos : Pos} (h : Q .none H) : JE a A L m (eval (.Constant .none k pos) env) H Q :=
  fun _ S => wpAny_pure ⟨H, S, Step.refl .., h⟩

/-- an operation on values whose tokens are not known -/
def O1 (a : Amb KF) (A : Around) (L : Addr) (m : Loc) (op : Value → Sem Value) (x : Value) (H : AHeap) (Q : Value → AHeap → Prop) : Prop := ∀ x', er x' = x → JE a A L m (op x') H Q
def O2 (a : Amb KF) (A : Around) (L : Addr) (m : Loc) (op : Value → Value → Sem Value) (x y : Value) (H : AHeap) (Q : Value → AHeap → Prop) : Prop := ∀ x' y', er x' = x → er y' = y → JE a A L m (op x' y') H Q
def OC (a : Amb KF) (A : Around) (L : Addr) (m : Loc) (fn : Value) (vs : List Value) (H : AHeap) (Q : Value → AHeap → Prop) : Prop := ∀ vs', vs'.map er = vs → JE a A L m (call fn vs') H Q

theorem e_bin {l r : Expr} {op : Operator} {pos : Pos} (h : JE a A L m (eval l env) H (fun x H₁ => JE a A L m (eval r env) H₁ (fun y H₂ => O2 a A L m (binaryOp op) x y H₂ Q))) :
    JE a A L m (eval (.BinOp l op r pos) env) H Q :=
  fun _ S => wpAny_BinOp (h.then S fun v₁ _ _ S₁ T₁ q₁ => J.then q₁ S₁ fun v₂ _ _ S₂ T₂ q₂ => (q₂ v₁ v₂ rfl rfl).carry S₂ (T₁.trans T₂))
theorem e_un {x : Expr} {op : UnaryOp} {pos : Pos} (h : JE a A L m (eval x env) H (fun v H₁ => O1 a A L m (unaryOp op) v H₁ Q)) :
    JE a A L m (eval (.UnaryOp op x pos) env) H Q :=
  fun _ S => wpAny_UnaryOp (h.then S fun v₁ _ _ S₁ T₁ q₁ => (q₁ v₁ rfl).carry S₁ T₁)
theorem e_ifexp {c x y : Expr} {pos : Pos} (h : JB a A L m (isTrue c env (eval c env)) H (fun b H₁ => if b = true then JE a A L m (eval x env) H₁ Q else JE a A L m (eval y env) H₁ Q)) :
    JE a A L m (eval (.IfExp c x y pos) env) H Q :=
  fun _ S => wpAny_IfExp (h.then S fun b _ _ S₁ T₁ q₁ => by
    cases b
    · simp only [Bool.false_eq_true, if_false] at q₁ ⊢; exact J.carry q₁ S₁ T₁
    · simp only [if_true] at q₁ ⊢; exact J.carry q₁ S₁ T₁)
/-- truth of a value -/
def OT (a : Amb KF) (A : Around) (L : Addr) (m : Loc) (x : Value) (H : AHeap) (Q : Bool → AHeap → Prop) : Prop := ∀ x', er x' = x → JB a A L m (truthy x') H Q
theorem b_cmp {l r : Expr} {op : CmpOp} {pos : Pos} {whole : Sem Value} {Q : Bool → AHeap → Prop} (hb : behindInMarks op r = false)
    (h : JE a A L m (eval l env) H (fun x H₁ => JE a A L m (eval r env) H₁ (fun y H₂ => O2 a A L m (compareOp op) x y H₂ (fun c H₃ => OT a A L m c H₃ Q)))) :
    JB a A L m (isTrue (.Compare l [op] [r] pos) env whole) H Q :=
  fun _ S => wpAny_isTrue_Compare1 (h.then S fun v₁ _ _ S₁ T₁ q₁ => J.then q₁ S₁ fun v₂ _ _ S₂ T₂ q₂ => J.then (q₂ v₁ v₂ rfl rfl) S₂ fun c _ _ S₃ T₃ q₃ => (q₃ c rfl).carry S₃ ((T₁.trans T₂).trans T₃)) hb
theorem b_not {x : Expr} {pos : Pos} {whole : Sem Value} {Q : Bool → AHeap → Prop} (h : JB a A L m (isTrue x env (eval x env)) H (fun b => Q (!b))) :
    JB a A L m (isTrue (.UnaryOp .Not x pos) env whole) H Q :=
  fun _ S => wpAny_isTrue_Not (wpAny_mono (h _ S) (fun _ _ x => x) fun _ _ x => x)
theorem b_boolop {op : BoolOp} {es : List Expr} {pos : Pos} {whole : Sem Value} {Q : Bool → AHeap → Prop} (h : JB a A L m (allTrue op es env) H Q) :
    JB a A L m (isTrue (.BoolOp op es pos) env whole) H Q := fun _ S => wpAny_isTrue_BoolOp (h _ S)
theorem b_and_nil {Q : Bool → AHeap → Prop} (h : Q true H) : JB a A L m (allTrue .And [] env) H Q := fun s S => wpAny_pure ⟨H, S, Step.refl .., h⟩
theorem b_or_nil {Q : Bool → AHeap → Prop} (h : Q false H) : JB a A L m (allTrue .Or [] env) H Q := fun s S => wpAny_allTrue_Or_nil ⟨H, S, Step.refl .., h⟩
theorem b_and {x : Expr} {es : List Expr} {Q : Bool → AHeap → Prop} (h : JB a A L m (isTrue x env (eval x env)) H (fun b H₁ => if b = true then JB a A L m (allTrue .And es env) H₁ Q else Q false H₁)) :
    JB a A L m (allTrue .And (x :: es) env) H Q :=
  fun _ S => wpAny_allTrue_And_cons (h.then S fun b _ _ S₁ T₁ q₁ => by
    cases b
    · simp only [Bool.false_eq_true, if_false] at q₁ ⊢; exact ⟨_, S₁, T₁, q₁⟩
    · simp only [if_true] at q₁ ⊢; exact J.carry q₁ S₁ T₁)
theorem b_or {x : Expr} {es : List Expr} {Q : Bool → AHeap → Prop} (h : JB a A L m (isTrue x env (eval x env)) H (fun b H₁ => if b = true then Q true H₁ else JB a A L m (allTrue .Or es env) H₁ Q)) :
    JB a A L m (allTrue .Or (x :: es) env) H Q :=
  fun _ S => wpAny_allTrue_Or_cons (h.then S fun b _ _ S₁ T₁ q₁ => by
    cases b
    · simp only [Bool.false_eq_true, if_false] at q₁ ⊢; exact J.carry q₁ S₁ T₁
    · simp only [if_true] at q₁ ⊢; exact ⟨_, S₁, T₁, q₁⟩)
theorem b_value {e : Expr} {whole : Sem Value} {Q : Bool → AHeap → Prop} (he : isTrue e env whole = (do let v ← whole; standAt e.pos; holding [v] (truthy v)))
    (h : JE a A L m whole H (fun v H₁ => OT a A L m v H₁ Q)) : JB a A L m (isTrue e env whole) H Q :=
  fun _ S => wpAny_isTrue_value (h.then S fun v _ _ S₁ T₁ q₁ => (q₁ v rfl).carry S₁ T₁) he

/-! ### statements -/
variable {QS : Flow → Loc → AHeap → Prop}
def onNext (k : Loc → AHeap → Prop) (Q : Flow → Loc → AHeap → Prop) : Flow → Loc → AHeap → Prop
  | .next, m, H => k m H
  | fl, m, H => Q fl m H
theorem s_nil (h : QS .next m H) : JS a A L m (execs [] env) H QS := fun s S => wpAny_execs_nil ⟨m, H, S, Step.refl .., h⟩
theorem s_cons {st : Stmt} {rest : List Stmt} (h : JS a A L m (exec st env) H (onNext (fun m₁ H₁ => JS a A L m₁ (execs rest env) H₁ QS) QS)) :
    JS a A L m (execs (st :: rest) env) H QS :=
  fun s S => wpAny_execs_cons (wpAny_mono (h s S) (fun fl s₁ ⟨m₁, H₁, S₁, T₁, q⟩ => by
    cases fl
    · exact JS.carry q S₁ T₁
    all_goals exact ⟨m₁, H₁, S₁, T₁, q⟩) fun _ _ x => x)
theorem s_if {c : Expr} {x y : List Stmt} {pos : Pos} (h : JB a A L m (isTrue c env (eval c env)) H (fun b H₁ => if b = true then JS a A L m (execs x env) H₁ QS else JS a A L m (execs y env) H₁ QS)) :
    JS a A L m (exec (.If c x y pos) env) H QS :=
  fun _ S => wpAny_If (h.then S fun b _ _ S₁ T₁ q₁ => by
    cases b
    · simp only [Bool.false_eq_true, if_false] at q₁ ⊢; exact JS.carry q₁ S₁ T₁
    · simp only [if_true] at q₁ ⊢; exact JS.carry q₁ S₁ T₁)
theorem s_return {e : Expr} {pos : Pos} (h : JE a A L m (eval e env) H (fun v H₁ => QS (.ret v) m H₁)) : JS a A L m (exec (.Return (some e) pos) env) H QS :=
  fun _ S => wpAny_Return_some (h.then S fun v _ H₁ S₁ T₁ q₁ => ⟨m, H₁, S₁, T₁, q₁⟩)
theorem s_return_none {pos : Pos} (h : QS (.ret .none) m H) : JS a A L m (exec (.Return none pos) env) H QS :=
  fun _ S => wpAny_Return_none ⟨m, H, S, Step.refl .., h⟩
theorem s_continue {pos : Pos} (h : QS .cont m H) : JS a A L m (exec (.Continue pos) env) H QS :=
  fun _ S => wpAny_Continue ⟨m, H, S, Step.refl .., h⟩
theorem s_expr {e : Expr} {pos : Pos} (hi : interactive env = false) (hs : swapsWith e none pos.line env = pure false) (h : JE a A L m (eval e env) H (fun _ H₁ => QS .next m H₁)) : JS a A L m (exec (.Expr e pos) env) H QS :=
  fun _ S => wpAny_Expr_any (h.then S fun v _ H₁ S₁ T₁ q₁ => ⟨m, H₁, S₁, T₁, q₁⟩) hi hs

theorem St.ne {s : Shared} (S : St a L m H s) {b : Addr} {c : Cell} (h : H b = some c) : b ≠ L := (S.cells b c h).1
/-- a name is stored -/
theorem u_local {x : Str} {v v' : Value} {QU : Loc → AHeap → Prop} (hL : env.locals = L) (hk : env.scope.kind = .function) (hx : env.kindOf x = some .local) (hv : er v = v') (h : QU (m.set x v') H) :
    JU a A L m (storeName env x v) H QU := by
  subst hL
  intro s S
  obtain ⟨mv, F, e⟩ := S.fr
  refine wpAny_storeName_local hx F.ns (fun h' hn hs => ⟨m.set x v', H, ⟨⟨_, F.set hn hs, fun y => ?_⟩, fun b c hb => ?_⟩, ⟨fun b o hb hn e => ⟨(hs.2 b hb).trans e, hn⟩, rfl, rfl⟩, h⟩) ?_
  · unfold Loc.set; split
    · rw [Option.map_some, hv]
    · exact e y
  · obtain ⟨h1, h2, o, h3, h4⟩ := S.cells b c hb
    exact ⟨h1, h2, o, (hs.2 b h1).trans h3, h4⟩
  · rw [hk]; rfl
theorem u_cell {x : Str} {v v' : Value} {c : Addr} {o : Option Value} {QU : Loc → AHeap → Prop} (hk : env.scope.kind = .function) (hx : env.kindOf x = some .cell) (hc : env.cells.lookup x = some c) (hm : H c = some (.cell o)) (hv : er v = v') (h : QU m (H.set c (.cell (some v')))) :
    JU a A L m (storeName env x v) H QU := by
  intro s S
  obtain ⟨w', h1, h2⟩ := isCell_of S hm
  have hcL := S.ne hm
  obtain ⟨mv, F, e⟩ := S.fr
  have hb0 := (S.cells _ _ hm).2.1
  refine wpAny_storeName_cell hk hx hc h1 (fun h' hn hs => ⟨m, H.set c (.cell (some v')), ⟨⟨mv, ⟨F.ns.sameBut hs (Ne.symm hcL), fun b o e' => (hs.2 b (fun q => by rw [q, hb0] at e'; cases e')).trans (F.keep b o e'), F.above⟩, e⟩, fun b cc hb => ?_⟩, ⟨fun b o hb hn e => ?_, rfl, rfl⟩, h⟩)
  · by_cases hbc : b = c
    · subst hbc
      rw [AHeap.set_same] at hb; cases hb
      obtain ⟨o', ho', hd'⟩ := hn
      exact ⟨hcL, hb0, o', ho', _, hd', by simp [hv]⟩
    · rw [AHeap.set_ne _ _ hbc] at hb
      obtain ⟨h1, h2, o, h3, h4⟩ := S.cells b cc hb
      exact ⟨h1, h2, o, (hs.2 b hbc).trans h3, h4⟩
  · have hbc : b ≠ c := fun q => by rw [q, hm] at hn; cases hn
    exact ⟨(hs.2 b hbc).trans e, by rw [AHeap.set_ne _ _ hbc]; exact hn⟩
theorem s_assign_name {x : Str} {p pos : Pos} {e : Expr} (hs : swapsWith e (some (.Name x p)) pos.line env = pure false)
    (h : JE a A L m (eval e env) H (fun v H₁ => ∀ v', er v' = v → JU a A L m (storeName env x v') H₁ (fun m' H' => QS .next m' H'))) : JS a A L m (exec (.Assign [.Name x p] e pos) env) H QS :=
  fun _ S => wpAny_Assign_Name (h.then S fun v _ H₁ S₁ T₁ q₁ => JU.carry (q₁ v rfl) S₁ T₁) hs
end
end
-- L2
section
variable {KF : Params → Frag}
section
variable {a : Amb KF} {A : Around} {L : Addr} {m : Loc} {H : AHeap} {env : Env} {Q : Value → AHeap → Prop}

/-! ### the heap grows, a cell turns -/
theorem St.fresh {s : Shared} (S : St a L m H s) {D : Addr} (hD : s.heap.get? D = none) : H D = none := by
  cases h : H D with
  | none => rfl
  | some c => obtain ⟨_, _, o, ho, _⟩ := S.cells _ _ h; rw [hD] at ho; cases ho
theorem get?_size (h : Heap) : h.get? h.objs.size = none := by
  cases q : h.get? h.objs.size with
  | none => rfl
  | some o => exact absurd (Heap.lt_size q) (Nat.lt_irrefl _)
theorem St.neL {s : Shared} (S : St a L m H s) {D : Addr} (hD : s.heap.get? D = none) : D ≠ L := by
  obtain ⟨mv, F, _⟩ := S.fr
  obtain ⟨o, _, _, ho, _⟩ := F.ns
  intro e; rw [e, ho] at hD; cases hD
theorem St.base {s : Shared} (S : St a L m H s) {D : Addr} (hD : s.heap.get? D = none) : a.h₀.get? D = none := by
  cases h : a.h₀.get? D with
  | none => rfl
  | some o => rw [S.keep _ _ h] at hD; cases hD
/-- more objects, none of them named -/
theorem St.grown {s s' : Shared} (S : St a L m H s) (hk : ∀ b o, s.heap.get? b = some o → s'.heap.get? b = some o) (hg : s'.gens = s.gens) (ho : s'.os = s.os) : St a L m H s' ∧ Step L H s H s' := by
  obtain ⟨mv, F, e⟩ := S.fr
  refine ⟨⟨⟨mv, ⟨?_, fun b o h => hk b o (F.keep b o h), F.above⟩, e⟩, fun b c h => ?_⟩, ⟨fun b o _ hn h => ⟨hk b o h, hn⟩, hg, ho⟩⟩
  · obtain ⟨o, es, ep, h1, h2⟩ := F.ns; exact ⟨o, es, ep, hk _ _ h1, h2⟩
  · obtain ⟨h1, h2, o, h3, h4⟩ := S.cells b c h; exact ⟨h1, h2, o, hk _ _ h3, h4⟩
/-- more objects, one of them named -/
theorem St.made {s s' : Shared} (S : St a L m H s) {D : Addr} {o : Obj} {c : Cell} (hD : s.heap.get? D = none) (hk : ∀ b o, s.heap.get? b = some o → s'.heap.get? b = some o) (ho : s'.heap.get? D = some o) (hc : CellAt c o)
    (hg : s'.gens = s.gens) (hos : s'.os = s.os) : St a L m (H.set D c) s' ∧ Step L H s (H.set D c) s' := by
  obtain ⟨S', T'⟩ := S.grown (s' := s') hk hg hos
  have hb : ∀ b, b ≠ D → (H.set D c) b = H b := fun b hb => AHeap.set_ne _ _ hb
  refine ⟨⟨S'.fr, fun b c' h => ?_⟩, ⟨fun b o' hL hn h => ⟨hk _ _ h, ?_⟩, hg, hos⟩⟩
  · by_cases q : b = D
    · subst q; rw [AHeap.set_same] at h; cases h
      exact ⟨S.neL hD, S.base hD, o, ho, hc⟩
    · rw [hb b q] at h; exact S'.cells b c' h
  · have q : b ≠ D := fun q => by rw [q, hD] at h; cases h
    rw [hb b q]; exact hn
/-- a named object turns -/
theorem St.turned {s s' : Shared} (S : St a L m H s) {l : Addr} {o : Obj} {c₀ c : Cell} (hl : H l = some c₀) (hk : ∀ b, b ≠ l → s'.heap.get? b = s.heap.get? b) (ho : s'.heap.get? l = some o) (hc : CellAt c o)
    (hg : s'.gens = s.gens) (hos : s'.os = s.os) : St a L m (H.set l c) s' ∧ Step L H s (H.set l c) s' := by
  obtain ⟨mv, F, e⟩ := S.fr
  obtain ⟨hlL, hl0, _⟩ := S.cells _ _ hl
  have hb : ∀ b, b ≠ l → (H.set l c) b = H b := fun b hb => AHeap.set_ne _ _ hb
  refine ⟨⟨⟨mv, ⟨?_, fun b o' h => ?_, F.above⟩, e⟩, fun b c' h => ?_⟩, ⟨fun b o' hL hn h => ?_, hg, hos⟩⟩
  · obtain ⟨o', es, ep, h1, h2⟩ := F.ns; exact ⟨o', es, ep, (hk _ (Ne.symm hlL)).trans h1, h2⟩
  · have q : b ≠ l := fun q => by rw [q, hl0] at h; cases h
    rw [hk b q]; exact F.keep b o' h
  · by_cases q : b = l
    · subst q; rw [AHeap.set_same] at h; cases h
      exact ⟨hlL, hl0, o, ho, hc⟩
    · rw [hb b q] at h
      obtain ⟨h1, h2, o', h3, h4⟩ := S.cells b c' h
      exact ⟨h1, h2, o', (hk _ q).trans h3, h4⟩
  · have q : b ≠ l := fun q => by rw [q, hl] at hn; cases hn
    exact ⟨(hk _ q).trans h, (hb b q).trans hn⟩
theorem St.pushed {s : Shared} (S : St a L m H s) {o : Obj} {c : Cell} (hf : o.isFreed = false) (hc : CellAt c o) {s' : Shared} (hh : s'.heap = s.heap.push o) (hg : s'.gens = s.gens) (hos : s'.os = s.os) :
    St a L m (H.set s.heap.objs.size c) s' ∧ Step L H s (H.set s.heap.objs.size c) s' :=
  S.made (get?_size _) (fun b o' h => by rw [hh]; exact Heap.get?_push_of_some _ h) (by rw [hh]; exact Heap.get?_push_size _ hf) hc hg hos

theorem St.list {s : Shared} (S : St a L m H s) {l : Addr} {vs : List Value} (h : H l = some (.list vs)) : ∃ its n, IsL s.heap l its n ∧ its.toList.map er = vs := by
  obtain ⟨_, _, o, ho, its, n, rfl, e⟩ := S.cells _ _ h; exact ⟨its, n, ho, e⟩
theorem St.tuple {s : Shared} (S : St a L m H s) {l : Addr} {vs : List Value} (h : H l = some (.tuple vs)) : ∃ its n, s.heap.get? l = some { cls := .type "tuple", data := .seq its n } ∧ its.toList.map er = vs := by
  obtain ⟨_, _, o, ho, its, n, rfl, e⟩ := S.cells _ _ h; exact ⟨its, n, ho, e⟩
theorem size_of {its : Array Value} {vs : List Value} (e : its.toList.map er = vs) : its.size = vs.length := by rw [← e]; simp
theorem item_of {its : Array Value} {vs : List Value} (e : its.toList.map er = vs) {i : Nat} {v : Value} (h : vs[i]? = some v) : ∃ x, its[i]? = some x ∧ er x = v := by
  rw [← e, List.getElem?_map] at h
  obtain ⟨x, h1, h2⟩ := Option.map_eq_some_iff.mp h
  exact ⟨x, by rw [← Array.getElem?_toList]; exact h1, h2⟩

/-- all that lies beside the frame and the base, as a ledger -/
def newsOf (h₀ h : Heap) (L : Addr) : List (Addr × Obj) := (List.range h.objs.size).filterMap fun b => if b = L ∨ (h₀.get? b).isSome = true then none else (h.get? b).map fun o => (b, o)
theorem newsOf_news (h₀ h : Heap) (L : Addr) : News h₀ L h (newsOf h₀ h L) := by
  intro p hp
  obtain ⟨b, hb, e⟩ := List.mem_filterMap.mp hp
  split at e
  · cases e
  · rename_i q
    obtain ⟨o, ho, rfl⟩ := Option.map_eq_some_iff.mp e
    refine ⟨ho, fun z => q (.inl z), ?_⟩
    cases z : h₀.get? b with
    | none => rfl
    | some _ => exact absurd (.inr (by rw [z]; rfl)) q
theorem newsOf_mem {h₀ h : Heap} {L b : Addr} {o : Obj} (hb : b ≠ L) (h0 : h₀.get? b = none) (ho : h.get? b = some o) : (b, o) ∈ newsOf h₀ h L :=
  List.mem_filterMap.mpr ⟨b, List.mem_range.mpr (Heap.lt_size ho), by rw [if_neg (by rw [h0]; simp [hb]), ho]; rfl⟩
/-- what the library's rules over frame and ledger keep -/
theorem St.fromFr {s : Shared} (S : St a L m H s) {mv : Str → Option Value} {h' : Heap} (F : Fr a.h₀ L s.heap mv) (F' : Fr a.h₀ L h' mv) (N' : ∀ p ∈ newsOf a.h₀ s.heap L, h'.get? p.1 = some p.2) : ∀ b o, b ≠ L → s.heap.get? b = some o → h'.get? b = some o := by
  intro b o hb ho
  cases z : a.h₀.get? b with
  | none => exact N' _ (newsOf_mem hb z ho)
  | some o' => rw [F.keep _ _ z] at ho; cases ho; exact F'.keep _ _ z
theorem St.grownL {s s' : Shared} (S : St a L m H s) {mv : Str → Option Value} (e : ∀ x, (mv x).map er = m x) (F' : Fr a.h₀ L s'.heap mv) (hk : ∀ b o, b ≠ L → s.heap.get? b = some o → s'.heap.get? b = some o) (hg : s'.gens = s.gens) (ho : s'.os = s.os) : St a L m H s' ∧ Step L H s H s' := by
  refine ⟨⟨⟨mv, F', e⟩, fun b c h => ?_⟩, ⟨fun b o hL hn h => ⟨hk b o hL h, hn⟩, hg, ho⟩⟩
  obtain ⟨h1, h2, o, h3, h4⟩ := S.cells b c h; exact ⟨h1, h2, o, hk _ _ h1 h3, h4⟩
theorem St.madeL {s s' : Shared} (S : St a L m H s) {mv : Str → Option Value} (e : ∀ x, (mv x).map er = m x) (F' : Fr a.h₀ L s'.heap mv) (hk : ∀ b o, b ≠ L → s.heap.get? b = some o → s'.heap.get? b = some o)
    {D : Addr} {o : Obj} {c : Cell} (hD : s.heap.get? D = none) (ho : s'.heap.get? D = some o) (hc : CellAt c o) (hg : s'.gens = s.gens) (hos : s'.os = s.os) : St a L m (H.set D c) s' ∧ Step L H s (H.set D c) s' := by
  obtain ⟨S', T'⟩ := S.grownL e F' hk hg hos
  have hb : ∀ b, b ≠ D → (H.set D c) b = H b := fun b hb => AHeap.set_ne _ _ hb
  refine ⟨⟨S'.fr, fun b c' h => ?_⟩, ⟨fun b o' hL hn h => ⟨hk _ _ hL h, ?_⟩, hg, hos⟩⟩
  · by_cases q : b = D
    · subst q; rw [AHeap.set_same] at h; cases h
      exact ⟨S.neL hD, S.base hD, o, ho, hc⟩
    · rw [hb b q] at h; exact S'.cells b c' h
  · have q : b ≠ D := fun q => by rw [q, hD] at h; cases h
    rw [hb b q]; exact hn

/-! ### ints -/
theorem oint {op : Value → Value → Sem Value} {i j r : Int} (h : ∀ (t u : Tok) (s : Shared) (P : Value → Shared → Prop), P (.int r s.toks) { s with toks := s.toks + 1 } → wpAny (model a.prog a.w) A (op (.int i t) (.int j u)) P (fun _ _ => False) s)
    (q : Q (vi r) H) : O2 a A L m op (vi i) (vi j) H Q := by
  intro x' y' hx hy
  obtain ⟨t, rfl⟩ := er_int hx
  obtain ⟨u, rfl⟩ := er_int hy
  exact fun s S => h t u s _ ⟨H, S.toks rfl, Step.toks rfl rfl rfl, q⟩
theorem o_add {i j : Int} (q : Q (vi (i + j)) H) : O2 a A L m (binaryOp .Add) (vi i) (vi j) H Q := oint (fun _ _ _ _ h => add_int h) q
theorem o_sub {i j : Int} (q : Q (vi (i - j)) H) : O2 a A L m (binaryOp .Sub) (vi i) (vi j) H Q := oint (fun _ _ _ _ h => sub_int h) q
theorem o_mul {i j : Int} (h1 : -(2 ^ 64) < j) (h2 : j < 2 ^ 64) (q : Q (vi (i * j)) H) : O2 a A L m (binaryOp .Mult) (vi i) (vi j) H Q := oint (fun _ _ _ _ h => mul_int h (.of_right (intBits_le_64 h1 h2))) q
theorem o_mul' {i j : Int} (h1 : -(2 ^ 64) < i) (h2 : i < 2 ^ 64) (q : Q (vi (i * j)) H) : O2 a A L m (binaryOp .Mult) (vi i) (vi j) H Q := oint (fun _ _ _ _ h => mul_int h (.of_left (intBits_le_64 h1 h2))) q
theorem o_div {i j : Int} (hj : j ≠ 0) (hs : j.natAbs < 1073741824) (q : Q (vi (i.fdiv j)) H) : O2 a A L m (binaryOp .FloorDiv) (vi i) (vi j) H Q := oint (fun _ _ _ _ h => floordiv_int hj h (.inl (PyProof.noPylong_small hs))) q
theorem o_mod {i j : Int} (hj : j ≠ 0) (q : Q (vi (i.fmod j)) H) : O2 a A L m (binaryOp .Mod) (vi i) (vi j) H Q := oint (fun _ _ _ _ h => mod_int hj h) q
theorem o_shl {i j : Int} (h0 : 0 ≤ j) (h1 : j ≤ 1000000) (h2 : i.natAbs < 2 ^ 64) (q : Q (vi (i * 2 ^ j.toNat)) H) : O2 a A L m (binaryOp .LShift) (vi i) (vi j) H Q := oint (fun _ _ _ _ h => lshift_int_small h0 h1 h2 h) q
theorem o_pow {i j : Int} (h0 : 0 ≤ j) (h1 : j ≤ 1000000) (h2 : i.natAbs < 2 ^ 64) (q : Q (vi (i ^ j.toNat)) H) : O2 a A L m (binaryOp .Pow) (vi i) (vi j) H Q := oint (fun _ _ _ _ h => pow_int_small h0 h1 h2 h) q
theorem o_iadd {i j : Int} (q : Q (vi (i + j)) H) : O2 a A L m (inplaceOp .Add) (vi i) (vi j) H Q := oint (fun _ _ _ _ h => iadd_int h) q
theorem o_neg {i : Int} (q : Q (vi (-i)) H) : O1 a A L m (unaryOp .USub) (vi i) H Q := by
  intro x' hx
  obtain ⟨t, rfl⟩ := er_int hx
  exact fun s S => neg_int ⟨H, S.toks rfl, Step.toks rfl rfl rfl, q⟩
theorem o_not {x : Value} (h : OT a A L m x H (fun b H₁ => Q (vb (!b)) H₁)) : O1 a A L m (unaryOp .Not) x H Q := by
  intro x' hx
  exact fun s S => not_of (wpAny_mono (h x' hx s S) (fun _ _ ⟨H', S', T', q⟩ => ⟨H', S', T', q⟩) fun _ _ x => x)
theorem ocmp {op : Value → Value → Sem Value} {i j : Int} {r : Bool} (h : ∀ (t u : Tok) (s : Shared) (P : Value → Shared → Prop), P (.bool r) s → wpAny (model a.prog a.w) A (op (.int i t) (.int j u)) P (fun _ _ => False) s)
    (q : Q (vb r) H) : O2 a A L m op (vi i) (vi j) H Q := by
  intro x' y' hx hy
  obtain ⟨t, rfl⟩ := er_int hx
  obtain ⟨u, rfl⟩ := er_int hy
  exact fun s S => h t u s _ ⟨H, S, Step.refl .., q⟩
theorem o_lt {i j : Int} (q : Q (vb (decide (i < j))) H) : O2 a A L m (compareOp .Lt) (vi i) (vi j) H Q := ocmp (fun _ _ _ _ h => lt_int h) q
theorem o_gt {i j : Int} (q : Q (vb (decide (j < i))) H) : O2 a A L m (compareOp .Gt) (vi i) (vi j) H Q := ocmp (fun _ _ _ _ h => gt_int h) q
theorem o_le {i j : Int} (q : Q (vb (decide (i ≤ j))) H) : O2 a A L m (compareOp .LtE) (vi i) (vi j) H Q := ocmp (fun _ _ _ _ h => le_int h) q
theorem o_ge {i j : Int} (q : Q (vb (decide (j ≤ i))) H) : O2 a A L m (compareOp .GtE) (vi i) (vi j) H Q := ocmp (fun _ _ _ _ h => ge_int h) q
theorem o_eq {i j : Int} (q : Q (vb (i == j)) H) : O2 a A L m (compareOp .Eq) (vi i) (vi j) H Q := ocmp (fun _ _ _ _ h => eq_int h) q
theorem o_ne {i j : Int} (q : Q (vb (i != j)) H) : O2 a A L m (compareOp .NotEq) (vi i) (vi j) H Q := ocmp (fun _ _ _ _ h => ne_int h) q
theorem o_eqb {i j : Bool} (q : Q (vb (i == j)) H) : O2 a A L m (compareOp .Eq) (vb i) (vb j) H Q := by
  intro x' y' hx hy
  rw [er_bool hx, er_bool hy]
  exact fun s S => eq_bool ⟨H, S, Step.refl .., q⟩
theorem o_is_none {x : Value} (hx : x = .none ∨ ∃ r, x = .ref r) (q : Q (vb (x == .none)) H) : O2 a A L m (compareOp .Is) x .none H Q := by
  intro x' y' hx' hy
  rw [er_none hy]
  have e : x' = x := by
    rcases hx with rfl | ⟨r, rfl⟩
    · exact er_none hx'
    · exact er_ref hx'
  subst e
  exact fun s S => wpAny_is_plain (by rcases hx with rfl | ⟨r, rfl⟩ <;> rfl) ⟨H, S, Step.refl .., q⟩
theorem t_bool {b : Bool} {QB : Bool → AHeap → Prop} (q : QB b H) : OT a A L m (vb b) H QB := by
  intro x' hx; rw [er_bool hx]; exact fun s S => wpAny_truthy_bool ⟨H, S, Step.refl .., q⟩
theorem t_list {l : Addr} {vs : List Value} {QB : Bool → AHeap → Prop} (h : H l = some (.list vs)) (hs : vs.length < 2 ^ 60) (q : QB (!vs.isEmpty) H) : OT a A L m (.ref l) H QB := by
  intro x' hx; rw [er_ref hx]
  intro s S
  obtain ⟨its, n, hl, e⟩ := S.list h
  have hz := size_of e
  refine wpAny_truthy_list hl.isList (by (first | lia | omega)) ⟨H, S.toks rfl, Step.toks rfl rfl rfl, ?_⟩
  rw [show its.isEmpty = vs.isEmpty by rw [← e]; cases its with | mk l => cases l <;> rfl]; exact q
theorem t_none {QB : Bool → AHeap → Prop} (q : QB false H) : OT a A L m .none H QB := by
  intro x' hx; rw [er_none hx]; exact fun s S => wpAny_pure ⟨H, S, Step.refl .., q⟩

/-! ### items -/
theorem e_cmp {l r : Expr} {op : CmpOp} {pos : Pos} (hb : behindInMarks op r = false)
    (h : JE a A L m (eval l env) H (fun x H₁ => JE a A L m (eval r env) H₁ (fun y H₂ => O2 a A L m (compareOp op) x y H₂ Q))) : JE a A L m (eval (.Compare l [op] [r] pos) env) H Q :=
  fun _ S => wpAny_Compare1 (h.then S fun v₁ _ _ S₁ T₁ q₁ => J.then q₁ S₁ fun v₂ _ _ S₂ T₂ q₂ => (q₂ v₁ v₂ rfl rfl).carry S₂ (T₁.trans T₂)) hb
theorem e_sub {v i : Expr} {pos : Pos} (h : JE a A L m (eval v env) H (fun x H₁ => JE a A L m (eval i env) H₁ (fun y H₂ => O2 a A L m (subscriptTail v i) x y H₂ Q))) : JE a A L m (eval (.Subscript v i pos) env) H Q :=
  fun _ S => Subscript_ (h.then S fun v₁ _ _ S₁ T₁ q₁ => J.then q₁ S₁ fun v₂ _ _ S₂ T₂ q₂ => (q₂ v₁ v₂ rfl rfl).carry S₂ (T₁.trans T₂))
/-- the index is no slice, nothing is let go: what the rule asks of the texts -/
def PlainSub (v i : Expr) : Prop := ∀ x y, ∃ os, subscripted i false x y = operate os (getItem x y)
theorem subTail {v i : Expr} {x y : Value} {T id : String} {P : Value → Shared → Prop} {s : Shared} (hp : PlainSub v i) (hT : s.TypeIs x T) (hl : typeLookup (.type T) "__getitem__" = pure (some (.builtin id)))
    (h : wpAny (model a.prog a.w) A (getItem x y) P (fun _ _ => False) s) : wpAny (model a.prog a.w) A (subscriptTail v i x y) P (fun _ _ => False) s := by
  unfold subscriptTail
  have hg : getitemInPython x = (do match ← specialOf x "__getitem__" with
    | some (.ref f) => do pure (match (← load f).data with | .func _ => true | _ => false)
    | _ => pure false) := rfl
  refine wpAny_bind (wpAny_mono (Q := fun b s' => b = false ∧ s' = s) (E := fun _ _ => False) ?_ (fun b s' hb => ?_) fun _ _ x => x)
  · unfold getitemInPython specialOf
    refine wpAny_bind (wpAny_bind (wpAny_typeOf hT ?_))
    rw [hl]
    exact wpAny_pure (wpAny_pure ⟨rfl, rfl⟩)
  · obtain ⟨rfl, rfl⟩ := hb
    obtain ⟨os, hos⟩ := hp x y
    rw [hos]
    refine wpAny_bind (wpAny_mono (wpAny_operating h) (fun r s₁ h₁ => wpAny_bind (wpAny_letTemporaryGo (wpAny_pure h₁))) fun _ _ x => x)
theorem o_item {v i : Expr} {l : Addr} {vs : List Value} {k : Int} {x : Value} (hp : PlainSub v i) (h : H l = some (.list vs)) (h0 : 0 ≤ k) (hx : vs[k.toNat]? = some x) (hs : vs.length < 2 ^ 60) (q : Q x H) :
    O2 a A L m (subscriptTail v i) (.ref l) (vi k) H Q := by
  intro x' y' h1 h2
  rw [er_ref h1]
  obtain ⟨t, rfl⟩ := er_int h2
  intro s S
  obtain ⟨its, n, hl, e⟩ := S.list h
  obtain ⟨y, hy, rfl⟩ := item_of e hx
  have hlt := (List.getElem?_eq_some_iff.mp hx).1
  exact subTail hp hl.isList.typeIs slot_list_getitem.lookup (wpAny_getItem_list hl.isList h0 (by (first | lia | omega)) hy ⟨H, S, Step.refl .., q⟩)
theorem o_getItem {l : Addr} {vs : List Value} {k : Int} {x : Value} (h : H l = some (.list vs)) (h0 : 0 ≤ k) (hx : vs[k.toNat]? = some x) (hs : vs.length < 2 ^ 60) (q : Q x H) :
    O2 a A L m getItem (.ref l) (vi k) H Q := by
  intro x' y' h1 h2
  rw [er_ref h1]
  obtain ⟨t, rfl⟩ := er_int h2
  intro s S
  obtain ⟨its, n, hl, e⟩ := S.list h
  obtain ⟨y, hy, rfl⟩ := item_of e hx
  have hlt := (List.getElem?_eq_some_iff.mp hx).1
  exact wpAny_getItem_list hl.isList h0 (by (first | lia | omega)) hy ⟨H, S, Step.refl .., q⟩
end
end
-- L3
section
variable {KF : Params → Frag}
section
variable {a : Amb KF} {A : Around} {L : Addr} {m : Loc} {H : AHeap} {env : Env} {Q : Value → AHeap → Prop}

theorem St.turnedL {s s' : Shared} (S : St a L m H s) {l : Addr} {its : Array Value} {n : Nat} {vs vs' : List Value} {f : Array Value → Array Value} (hl : H l = some (.list vs)) (ho : IsL s.heap l its n)
    (hf : (f its).toList.map er = vs') (hh : s'.heap = s.heap.update l (Obj.mapSeq f)) (hg : s'.gens = s.gens) (hos : s'.os = s.os) : St a L m (H.set l (.list vs')) s' ∧ Step L H s (H.set l (.list vs')) s' :=
  S.turned hl (fun b hb => by rw [hh]; exact Heap.get?_update_other _ _ (Ne.symm hb)) (by rw [hh]; exact ho.update f) ⟨_, _, rfl, hf⟩ hg hos

/-! ### stores -/
theorem setItem_at {prog : Program} {w : World} {s : Shared} {l : Addr} {its : Array Value} {n : Nat} {k : Int} {t : Tok} {v : Value} {P : Unit → Shared → Prop} (hl : IsL s.heap l its n) (h0 : 0 ≤ k) (hfit : k < 2 ^ 63) (hn : k < its.size)
    (h : P () { s with heap := s.heap.update l (Obj.mapSeq (·.setIfInBounds k.toNat v)) }) : wpAny (model prog w) A (setItem (.ref l) (.int k t) v) P (fun _ _ => False) s := by
  have hT := hl.isList.typeIs (s := s)
  unfold setItem
  try with_reducible refine wpAny_holding ?_
  first | refine wpAny_bind (wpAny_pure ?_) | skip
  refine wpAny_bind (wpAny_sequenceKey hT (by decide) ?_)
  refine wpAny_bind (wpAny_callSpecial?_slot (name := Str.ofString "__setitem__") hT slot_list_setitem (wpAny_call_entry slot_list_setitem hT entry_list_setitem ?_ (args_list_setitem _ _ _)))
  show wpAny _ _ (Builtin.List.listSubscript? (.int k t) >>= _) _ _ s
  refine wpAny_bind (wpAny_listSubscript_int (fitsIndex_of h0 hfit) ?_)
  clear hfit
  obtain ⟨j, rfl⟩ := Int.eq_ofNat_of_zero_le h0
  have hj : j < its.size := by (first | lia | omega)
  have hx' : its[j]? = some its[j] := Array.getElem?_eq_getElem hj
  show wpAny _ _ ((seqItemAt l j >>= fun r => pure (r.map (j, ·))) >>= _) _ _ s
  refine wpAny_bind (wpAny_bind (wpAny_seqItemAt hl rfl (wpAny_pure ?_)))
  rw [hx']
  show wpAny _ _ (setSeqItemAt l j v >>= _) _ _ s
  refine wpAny_bind (wpAny_setSeqItemAt hl rfl ?_)
  first
    | exact wpAny_bind (wpAny_pure (wpAny_pure ⟨.none, rfl, wpAny_pure h⟩))
    | exact wpAny_pure ⟨.none, rfl, wpAny_pure h⟩
/-- an item is stored -/
theorem u_setItem {l : Addr} {vs : List Value} {k : Int} {x y v : Value} {QU : Loc → AHeap → Prop} (hx : er x = .ref l) (hy : er y = vi k) (h : H l = some (.list vs)) (h0 : 0 ≤ k) (hk : k < vs.length) (hs : vs.length < 2 ^ 60) (q : QU m (H.set l (.list (vs.set k.toNat (er v))))) :
    JU a A L m (setItem x y v) H QU := by
  rw [er_ref hx]
  obtain ⟨t, rfl⟩ := er_int hy
  intro s S
  obtain ⟨its, n, hl, e⟩ := S.list h
  have hz := size_of e
  refine setItem_at hl h0 (by (first | lia | omega)) (by (first | lia | omega)) ?_
  obtain ⟨S', T'⟩ := S.turnedL (s' := { s with heap := s.heap.update l (Obj.mapSeq (·.setIfInBounds k.toNat v)) }) (vs' := vs.set k.toNat (er v)) h hl (by rw [Array.toList_setIfInBounds, List.map_set, e]) rfl rfl rfl
  exact ⟨m, _, S', T', q⟩
theorem s_assign_sub {o i e : Expr} {p pos : Pos} {QS : Flow → Loc → AHeap → Prop} (hs : swapsWith e (some (.Subscript o i p)) pos.line env = pure false)
    (h : JE a A L m (eval e env) H (fun v H₁ => JE a A L m (eval o env) H₁ (fun x H₂ => JE a A L m (eval i env) H₂ (fun y H₃ => ∀ v' x' y', er v' = v → er x' = x → er y' = y → JU a A L m (setItem x' y' v') H₃ (fun m' H' => QS .next m' H'))))) :
    JS a A L m (exec (.Assign [.Subscript o i p] e pos) env) H QS :=
  fun _ S => wpAny_Assign_Subscript (h.then S fun v _ _ S₁ T₁ q₁ => J.then q₁ S₁ fun x _ _ S₂ T₂ q₂ => J.then q₂ S₂ fun y _ _ S₃ T₃ q₃ => JU.carry (q₃ v x y rfl rfl rfl) S₃ ((T₁.trans T₂).trans T₃)) hs
theorem s_aug_sub {o i e : Expr} {op : Operator} {p pos : Pos} {QS : Flow → Loc → AHeap → Prop}
    (ha : ∀ ov iv new, augStore i ov iv new = (do holding [new, ov, iv] (setItem ov iv new); release [new, ov, iv] []; pure Flow.next))
    (h : JE a A L m (eval o env) H (fun x H₁ => JE a A L m (eval i env) H₁ (fun y H₂ => O2 a A L m getItem x y H₂ (fun old H₃ => JE a A L m (eval e env) H₃ (fun v H₄ => O2 a A L m (inplaceOp op) old v H₄ (fun new H₅ =>
      ∀ v' x' y', er v' = new → er x' = x → er y' = y → JU a A L m (setItem x' y' v') H₅ (fun m' H' => QS .next m' H'))))))) :
    JS a A L m (exec (.AugAssign (.Subscript o i p) op e pos) env) H QS :=
  fun _ S => wpAny_AugAssign_SubscriptAny (h.then S fun x _ _ S₁ T₁ q₁ => J.then q₁ S₁ fun y _ _ S₂ T₂ q₂ => J.then (q₂ x y rfl rfl) S₂ fun old _ _ S₃ T₃ q₃ => J.then q₃ S₃ fun v _ _ S₄ T₄ q₄ => J.then (q₄ old v rfl rfl) S₄ fun new _ _ S₅ T₅ q₅ =>
    JU.carry (q₅ new x y rfl rfl rfl) S₅ ((((T₁.trans T₂).trans T₃).trans T₄).trans T₅)) ha

/-! ### displays -/
abbrev JX (a : Amb KF) (A : Around) (L : Addr) (m : Loc) (pos : Pos) (es : List Expr) (env : Env) (H : AHeap) (Q : List Value → AHeap → Prop) : Prop := J a A (fun vs : List Value => vs.map er) L m (spliced (backTo pos (starEach es env))) H Q
theorem x_nil {pos : Pos} {QX : List Value → AHeap → Prop} (h : QX [] H) : JX a A L m pos [] env H QX := fun s S => spliced_none ⟨H, S, Step.refl .., h⟩
theorem x_cons {pos : Pos} {e : Expr} {es : List Expr} {QX : List Value → AHeap → Prop} (he : starEach (e :: es) env = (false, eval e env) :: starEach es env)
    (h : JE a A L m (eval e env) H (fun v H₁ => JX a A L m pos es env H₁ (fun vs H₂ => QX (v :: vs) H₂))) : JX a A L m pos (e :: es) env H QX :=
  fun _ S => spliced_more (h.then S fun v _ _ S₁ T₁ q₁ => J.then q₁ S₁ fun vs _ H₂ S₂ T₂ q₂ => ⟨H₂, S₂, T₁.trans T₂, q₂⟩) he
theorem e_list {es : List Expr} {pos : Pos} (h : JX a A L m pos es env H (fun vs H₁ => vs.length ≤ 1000 ∧ ∀ D, H₁ D = none → Q (.ref D) (H₁.set D (.list vs)))) : JE a A L m (eval (.List es pos) env) H Q :=
  fun _ S => wpAny_List_spliced (h.then S fun vs s₁ H₁ S₁ T₁ ⟨hz, q⟩ => ⟨by have : vs.length ≤ 1000 := by simpa using hz
                                                                            rw [sizeLine_eq]; (first | lia | omega), by
    obtain ⟨S₂, T₂⟩ := S₁.pushed (o := { cls := .type "list", data := .seq vs.toArray }) (c := .list (vs.map er)) (s' := { s₁ with heap := s₁.heap.push { cls := .type "list", data := .seq vs.toArray } }) rfl ⟨_, _, rfl, rfl⟩ rfl rfl rfl
    exact ⟨_, S₂, T₁.trans T₂, q _ (S₁.fresh (get?_size _))⟩⟩)
theorem e_tuple {es : List Expr} {k : Nat} {pos : Pos} (h : JX a A L m pos es env H (fun vs H₁ => vs.length ≤ 1000 ∧ ∀ D, H₁ D = none → Q (.ref D) (H₁.set D (.tuple vs)))) : JE a A L m (eval (.Tuple es k pos) env) H Q :=
  fun _ S => wpAny_Tuple_spliced (h.then S fun vs s₁ H₁ S₁ T₁ ⟨hz, q⟩ => ⟨by have : vs.length ≤ 1000 := by simpa using hz
                                                                             rw [sizeLine_eq]; (first | lia | omega), by
    obtain ⟨S₂, T₂⟩ := S₁.pushed (o := { cls := .type "tuple", data := .seq vs.toArray }) (c := .tuple (vs.map er)) (s' := { s₁ with heap := s₁.heap.push { cls := .type "tuple", data := .seq vs.toArray } }) rfl ⟨_, _, rfl, rfl⟩ rfl rfl rfl
    exact ⟨_, S₂, T₁.trans T₂, q _ (S₁.fresh (get?_size _))⟩⟩)
theorem foldl_replicate (vs : List Value) : ∀ (k : Nat) (acc : Array Value), (List.foldl (fun x1 x2 => x1 ++ x2) acc (List.replicate k vs.toArray)).toList = acc.toList ++ (List.replicate k vs).flatten
  | 0, acc => by simp
  | k + 1, acc => by rw [List.replicate_succ, List.foldl_cons, foldl_replicate vs k, List.replicate_succ, List.flatten_cons]; simp
theorem o_mul_list1 {l : Addr} {v : Value} {k : Int} (h : H l = some (.list [v])) (h0 : 0 ≤ k) (hk : k ≤ 1000) (q : ∀ D, H D = none → Q (.ref D) (H.set D (.list (List.replicate k.toNat v)))) : O2 a A L m (binaryOp .Mult) (.ref l) (vi k) H Q := by
  intro x' y' hx hy
  rw [er_ref hx]
  obtain ⟨t, rfl⟩ := er_int hy
  intro s S
  obtain ⟨its, n, hl, e⟩ := S.list h
  have hz : its.size = 1 := size_of e
  obtain ⟨mv, F, em⟩ := S.fr
  have hne : its.isEmpty = false := by simp [Array.isEmpty, hz]
  obtain ⟨x, rfl⟩ : ∃ x, its = #[x] := by
    refine ⟨its[0], ?_⟩
    apply Array.ext
    · simpa using hz
    · intro i h1 h2
      have : i = 0 := by (first | lia | omega)
      subst this; simp
  have hx : er x = v := by simpa using e
  refine mul_list F (newsOf_news _ _ _) hl (by (first | lia | omega)) (by (first | lia | omega)) (by rw [hz]; (first | lia | omega)) (fun h' F' N' => ?_)
  obtain ⟨S', T'⟩ := S.madeL (s' := { s with heap := h' }) em F' (S.fromFr F F' fun p hp => (N' p (.tail _ hp)).1) (get?_size _) (N' _ (.head _)).1 (c := .list (List.replicate k.toNat v)) ⟨_, _, rfl, by
    rw [hne]
    simp only [Bool.false_eq_true, if_false]
    rw [show #[x] = [x].toArray from rfl, foldl_replicate]
    simp [hx]⟩ rfl rfl
  exact ⟨_, S', T', q _ (S.fresh (get?_size _))⟩
theorem o_add_lists {l b : Addr} {vs ws : List Value} (h : H l = some (.list vs)) (h2 : H b = some (.list ws)) (hz : vs.length + ws.length ≤ 100000) (q : ∀ D, H D = none → Q (.ref D) (H.set D (.list (vs ++ ws)))) : O2 a A L m (binaryOp .Add) (.ref l) (.ref b) H Q := by
  intro x' y' hx hy
  rw [er_ref hx, er_ref hy]
  intro s S
  obtain ⟨its, n, hl, e⟩ := S.list h
  obtain ⟨its2, n2, hl2, e2⟩ := S.list h2
  have z1 := size_of e
  have z2 := size_of e2
  refine P.add_list hl hl2 ?_ (by rw [sizeLine_eq]; (first | lia | omega))
  obtain ⟨S', T'⟩ := S.pushed (o := { cls := .type "list", data := .seq (its ++ its2) }) (c := .list (vs ++ ws)) (s' := { s with heap := s.heap.push { cls := .type "list", data := .seq (its ++ its2) } }) rfl ⟨_, _, rfl, by simp [e, e2]⟩ rfl rfl rfl
  exact ⟨_, S', T', q _ (S.fresh (get?_size _))⟩

/-! ### slices -/
theorem slicePick_hi (its : Array Value) (b : Nat) : slicePick its none (some (b : Int)) none = (its.toList.take b).toArray := by
  by_cases hb : b ≤ its.size
  · exact slicePick_upto its b hb
  · have e : slicePick its none (some (b : Int)) none = slicePick its none (some (its.size : Int)) none := by
      have : sliceBounds none (some (b : Int)) none its.size = sliceBounds none (some (its.size : Int)) none its.size := by
        simp only [sliceBounds, Option.getD_none]
        have h1 : ¬ ((b : Int) < 0) := by (first | lia | omega)
        have h2 : ¬ ((its.size : Int) < 0) := by (first | lia | omega)
        simp only [h1, h2, if_false]
        congr 1; congr 1
        rw [if_pos (by decide), if_pos (by decide)]
        (first | lia | omega)
      unfold slicePick; rw [this]
    rw [e, slicePick_upto its its.size (Nat.le_refl _)]
    congr 1
    rw [List.take_of_length_le (by simp), List.take_of_length_le (by simp; (first | lia | omega))]
theorem getItem_slice {s : Shared} {S : St a L m H s} {l sl : Addr} {vs : List Value} {lo hi : Option Int} {vl vu : Value} (h : H l = some (.list vs)) (hz : vs.length ≤ 100000) (hs : s.heap.IsSliceOf sl vl vu .none) (pl : IsPart vl lo) (pu : IsPart vu hi)
    {ws : List Value} (hw : ∀ its : Array Value, its.toList.map er = vs → (slicePick its lo hi none).toList.map er = ws) (q : ∀ D, H D = none → Q (.ref D) (H.set D (.list ws))) :
    wpAny (model a.prog a.w) A (getItem (.ref l) (.ref sl)) (fun v s' => ∃ H', St a L m H' s' ∧ Step L H s H' s' ∧ Q (er v) H') (fun _ _ => False) s := by
  obtain ⟨its, n, hl', e⟩ := S.list h
  have hz' := size_of e
  refine wpAny_getItem_list_slice hl'.isList hs pl pu .none (by simp) ?_ (by rw [sizeLine_eq]; (first | lia | omega))
  obtain ⟨S', T'⟩ := S.pushed (o := { cls := .type "list", data := .seq (slicePick its lo hi none) }) (c := .list ws) (s' := { s with heap := s.heap.push { cls := .type "list", data := .seq (slicePick its lo hi none) } }) rfl ⟨_, _, rfl, hw its e⟩ rfl rfl rfl
  exact ⟨_, S', T', q _ (S.fresh (get?_size _))⟩
def SliceHi (x y : Value) (H₂ : AHeap) (Q : Value → AHeap → Prop) : Prop := ∃ l vs k, x = .ref l ∧ H₂ l = some (.list vs) ∧ y = vi k ∧ 0 ≤ k ∧ vs.length ≤ 100000 ∧ ∀ D, H₂ D = none → Q (.ref D) (H₂.set D (.list (vs.take k.toNat)))
def SliceLo (x y : Value) (H₂ : AHeap) (Q : Value → AHeap → Prop) : Prop := ∃ l vs k, x = .ref l ∧ H₂ l = some (.list vs) ∧ y = vi k ∧ 0 ≤ k ∧ k ≤ vs.length ∧ vs.length ≤ 100000 ∧ ∀ D, H₂ D = none → Q (.ref D) (H₂.set D (.list (vs.drop k.toNat)))
theorem e_slice_hi {v u : Expr} {p pos : Pos}
    (h : JE a A L m (eval v env) H (fun x H₁ => JE a A L m (eval u env) H₁ (fun y H₂ => SliceHi x y H₂ Q))) :
    JE a A L m (eval (.Subscript v (.Slice none (some u) none p) pos) env) H Q := by
  intro s S
  refine Subscript_ (h.then S fun x s₁ H₁ S₁ T₁ q₁ => ?_)
  refine wpAny_Slice (wpAny_pure (J.then q₁ S₁ fun y s₂ H₂ S₂ T₂ q₂ => ?_))
  obtain ⟨l, vs, k, hx, hl, hy, h0, hz, q⟩ := q₂
  rw [er_ref hx]
  obtain ⟨t, rfl⟩ := er_int hy
  obtain ⟨kn, rfl⟩ := Int.eq_ofNat_of_zero_le h0
  refine wpAny_pure ?_
  obtain ⟨S₃, T₃⟩ := S₂.grown (s' := { s₂ with heap := s₂.heap.push { cls := .type "slice", data := .fields #[.none, .int (kn : Int) t, .none] } }) (fun b o e => Heap.get?_push_of_some _ e) rfl rfl
  obtain ⟨its, n, hl', e⟩ := S₃.list hl
  refine subTail (fun _ _ => ⟨_, rfl⟩) hl'.isList.typeIs slot_list_getitem.lookup ?_
  refine wpAny_mono (getItem_slice (S := S₃) hl hz (Heap.IsSliceOf.new ..) .none (.int _ _) (fun its e => ?_) q) (fun _ _ ⟨H', S', T', q'⟩ => ⟨H', S', ((T₁.trans T₂).trans T₃).trans T', q'⟩) fun _ _ x => x
  rw [slicePick_hi, ← e]; simp
theorem e_slice_lo {v u : Expr} {p pos : Pos}
    (h : JE a A L m (eval v env) H (fun x H₁ => JE a A L m (eval u env) H₁ (fun y H₂ => SliceLo x y H₂ Q))) :
    JE a A L m (eval (.Subscript v (.Slice (some u) none none p) pos) env) H Q := by
  intro s S
  refine Subscript_ (h.then S fun x s₁ H₁ S₁ T₁ q₁ => ?_)
  refine wpAny_Slice (J.then q₁ S₁ fun y s₂ H₂ S₂ T₂ q₂ => ?_)
  obtain ⟨l, vs, k, hx, hl, hy, h0, hk, hz, q⟩ := q₂
  rw [er_ref hx]
  obtain ⟨t, rfl⟩ := er_int hy
  obtain ⟨kn, rfl⟩ := Int.eq_ofNat_of_zero_le h0
  refine wpAny_pure (wpAny_pure ?_)
  obtain ⟨S₃, T₃⟩ := S₂.grown (s' := { s₂ with heap := s₂.heap.push { cls := .type "slice", data := .fields #[.int (kn : Int) t, .none, .none] } }) (fun b o e => Heap.get?_push_of_some _ e) rfl rfl
  obtain ⟨its, n, hl', e⟩ := S₃.list hl
  refine subTail (fun _ _ => ⟨_, rfl⟩) hl'.isList.typeIs slot_list_getitem.lookup ?_
  refine wpAny_mono (getItem_slice (S := S₃) hl hz (Heap.IsSliceOf.new ..) (.int _ _) .none (fun its e => ?_) q) (fun _ _ ⟨H', S', T', q'⟩ => ⟨H', S', ((T₁.trans T₂).trans T₃).trans T', q'⟩) fun _ _ x => x
  have hz' := size_of e
  rw [slicePick_from _ _ (by (first | lia | omega)), ← e]; simp
end
end
-- L4
section
variable {KF : Params → Frag}

/-! ### the dicts of instances -/
def putF (x : Str) (v : Value) : List (Str × Value) → List (Str × Value)
  | [] => [(x, v)]
  | (y, u) :: r => if (y == x) = true then (y, v) :: r else (y, u) :: putF x v r
theorem putF_length (x : Str) (v : Value) : ∀ fs, (putF x v fs).length ≤ fs.length + 1
  | [] => by simp [putF]
  | (y, u) :: r => by unfold putF; split <;> simp; exact putF_length x v r
theorem AR.getL {es : List DictEntry} {fs : List (Str × Value)} (h : AR es fs) (x : Str) : ∃ r, W.getL x es = some r ∧ r.map er = fs.lookup x := by
  have hn : es.any (·.refKey) = false := by
    induction h with
    | nil => rfl
    | cons _ ih => rw [List.any_cons, ih]; rfl
  unfold W.getL
  rw [hn]
  clear hn
  induction h with
  | nil => exact ⟨none, rfl, rfl⟩
  | @cons hh y t v es fs h ih =>
    rw [List.find?_cons, List.lookup_cons]
    have hk : (DictEntry.mk hh (.str y t) v).key.isStr x = (y == x) := rfl
    rw [hk]
    by_cases q : y = x
    · subst q
      simp
    · have q1 : (y == x) = false := by simpa using q
      have q2 : (x == y) = false := by simpa using fun e : x = y => q e.symm
      rw [q1, q2]
      exact ih
theorem AR.putL {es : List DictEntry} {fs : List (Str × Value)} (h : AR es fs) (x : Str) (hsh : Int) (t : Tok) (v : Value) : AR (W.putL x hsh (.str x t) v es) (putF x (er v) fs) := by
  induction h with
  | nil => exact .cons .nil
  | @cons hh y tt u es fs h ih =>
    unfold W.putL putF
    show AR (if (y == x) = true then _ else _) _
    by_cases q : (y == x) = true
    · rw [if_pos q, if_pos q]; exact .cons h
    · rw [if_neg q, if_neg q]; exact .cons ih
theorem AR.length {es : List DictEntry} {fs : List (Str × Value)} (h : AR es fs) : es.length = fs.length := by
  induction h with
  | nil => rfl
  | cons _ ih => simp [ih]
theorem upd_of {d : Addr} {o o' : Obj} : ∀ {l : List (Addr × Obj)}, (l.map (·.1)).Nodup → (d, o) ∈ l → ∃ l', Upd d o o' l l' ∧ (d, o') ∈ l' ∧ ∀ p ∈ l, p.1 ≠ d → p ∈ l'
  | (b, x) :: r, hn, hm => by
    rw [List.map_cons, List.nodup_cons] at hn
    by_cases q : b = d
    · subst q
      have e : x = o := by
        rcases List.mem_cons.mp hm with e | e
        · cases e; rfl
        · exact absurd (List.mem_map_of_mem (f := (·.1)) e) hn.1
      subst e
      exact ⟨_, .head (fun p hp e => hn.1 (e ▸ List.mem_map_of_mem (f := (·.1)) hp)), .head _, fun p hp h => by
        rcases List.mem_cons.mp hp with e | e
        · exact absurd (by rw [e]) h
        · exact .tail _ e⟩
    · have hm' : (d, o) ∈ r := by
        rcases List.mem_cons.mp hm with e | e
        · cases e; exact absurd rfl q
        · exact e
      obtain ⟨l', U, h1, h2⟩ := upd_of (l := r) hn.2 hm'
      exact ⟨_, .tail q U, .tail _ h1, fun p hp h => by
        rcases List.mem_cons.mp hp with e | e
        · rw [e]; exact .head _
        · exact .tail _ (h2 p e h)⟩
theorem newsOf_nodup (h₀ h : Heap) (L : Addr) : ((newsOf h₀ h L).map (·.1)).Nodup := by
  unfold newsOf
  generalize h.objs.size = n
  have key : ∀ l : List Nat, l.Nodup → (((l.filterMap fun b => if b = L ∨ (h₀.get? b).isSome = true then none else (h.get? b).map fun o => (b, o)).map (·.1)).Nodup ∧ ∀ x ∈ (l.filterMap fun b => if b = L ∨ (h₀.get? b).isSome = true then none else (h.get? b).map fun o => (b, o)).map (·.1), x ∈ l) := by
    intro l
    induction l with
    | nil => intro _; exact ⟨List.nodup_nil, fun _ h => by cases h⟩
    | cons b r ih =>
      intro hn
      rw [List.nodup_cons] at hn
      obtain ⟨i1, i2⟩ := ih hn.2
      rw [List.filterMap_cons]
      split
      · exact ⟨i1, fun x hx => .tail _ (i2 x hx)⟩
      · rename_i p hp
        have hb : p.1 = b := by
          split at hp
          · cases hp
          · obtain ⟨o, _, rfl⟩ := Option.map_eq_some_iff.mp hp; rfl
        rw [List.map_cons, hb]
        refine ⟨List.nodup_cons.mpr ⟨fun hm => hn.1 (i2 _ hm), i1⟩, fun x hx => ?_⟩
        rcases List.mem_cons.mp hx with e | e
        · rw [e]; exact .head _
        · exact .tail _ (i2 x e)
  exact (key _ List.nodup_range).1

section
variable {a : Amb KF} {A : Around} {L : Addr} {m : Loc} {H : AHeap} {env : Env} {Q : Value → AHeap → Prop}

/-- what the written part says of a class and a field of its instances -/
structure FieldOk (K : Frag) (C : Addr) (name : Str) : Prop where
  plain : plainGet K C name = true
  has : hasDictIn K C = true
  find : findIn K (.ref C) name = some none
structure StoreOk (K : Frag) (C : Addr) (name : Str) : Prop where
  set : findIn K (.ref C) "__setattr__" = some (some (.builtin "object.__setattr__"))
  over : plainOver K C = true
  taker : takerIn K C name = some none
  has : hasDictIn K C = true

theorem St.inst {s : Shared} (S : St a L m H s) {x C d : Addr} {fs : List (Str × Value)} (h : H x = some (.inst C d)) (hd : H d = some (.attrs fs)) :
    ∃ es n, W.InstAt s.heap x (instObj C d) C (some (dictOf es n)) ∧ s.heap.get? d = some (dictOf es n) ∧ AR es fs ∧ fs.length ≤ 500 := by
  obtain ⟨_, _, o, ho, rfl⟩ := S.cells _ _ h
  obtain ⟨_, _, o', ho', es, n, rfl, hz, har⟩ := S.cells _ _ hd
  exact ⟨es, n, ⟨ho, rfl, rfl, ho'⟩, ho', har, hz⟩
theorem o_attr {x C d : Addr} {fs : List (Str × Value)} {name : Str} {v : Value} {expr : Bool} (f : FieldOk (KF a.w.params) C name) (h : H x = some (.inst C d)) (hd : H d = some (.attrs fs)) (hv : fs.lookup name = some v) (hb : ∀ i, v ≠ .builtin i) (q : Q v H) :
    O1 a A L m (fun o => getAttr o name expr) (.ref x) H Q := by
  intro x' hx
  rw [er_ref hx]
  intro s S
  obtain ⟨es, n, I, _, har, _⟩ := S.inst h hd
  obtain ⟨r, hr, he⟩ := har.getL name
  rw [hv] at he
  obtain ⟨u, rfl, hu⟩ := Option.map_eq_some_iff.mp he
  obtain ⟨mv, F, _⟩ := S.fr
  refine get_own F a.X I f.plain f.has f.find rfl hr ?_ ⟨H, S.toks rfl, Step.toks rfl rfl rfl, by rw [hu]; exact q⟩
  cases u <;> try rfl
  exact absurd hu.symm (hb _)
theorem e_attr {v : Expr} {name : Str} {pos : Pos} (he : eval (.Attribute v name pos) env = (do
      let o ← eval v env
      standAt pos.atName
      let r ← holding [o] (getAttr o name true)
      letTemporaryGo v o r
      pure r)) (h : JE a A L m (eval v env) H (fun x H₁ => O1 a A L m (fun o => getAttr o name true) x H₁ Q)) : JE a A L m (eval (.Attribute v name pos) env) H Q :=
  fun _ S => Attribute_any_ (h.then S fun v₁ _ _ S₁ T₁ q₁ => (q₁ v₁ rfl).carry S₁ T₁) he
theorem u_setAttr {x C d : Addr} {fs : List (Str × Value)} {name : Str} {o v v' : Value} {QU : Loc → AHeap → Prop} (f : StoreOk (KF a.w.params) C name) (h : H x = some (.inst C d)) (hd : H d = some (.attrs fs)) (hz : fs.length < 500) (ho : er o = .ref x) (hv : er v = v')
    (q : QU m (H.set d (.attrs (putF name v' fs)))) : JU a A L m (setAttr o name v) H QU := by
  rw [er_ref ho]
  subst hv
  intro s S
  obtain ⟨es, n, I, hd', har, hz'⟩ := S.inst h hd
  obtain ⟨r, hr, he⟩ := har.getL name
  obtain ⟨mv, F, em⟩ := S.fr
  obtain ⟨hdL, hd0, _⟩ := S.cells _ _ hd
  obtain ⟨l', U, h1, h2⟩ := upd_of (o' := dictOf (W.putL name (PyData.keyHash a.w.params name) (.str name (s.toks + 1)) v es) (putN name es n)) (newsOf_nodup a.h₀ s.heap L) (newsOf_mem hdL hd0 hd')
  have har' := har.putL name (PyData.keyHash a.w.params name) (s.toks + 1) v
  have hz2 := putF_length name (er v) fs
  refine set_dict (w := a.w) F a.X (newsOf_news a.h₀ s.heap L) I rfl f.set f.over f.taker f.has (by rw [hr]; rfl) rfl U (by rw [har'.length]; (first | lia | omega)) (fun h' F' N' => ?_)
  have hk : ∀ b o, b ≠ d → b ≠ L → s.heap.get? b = some o → h'.get? b = some o := fun b o hb hL e => by
    cases z : a.h₀.get? b with
    | none => exact (N' _ (h2 _ (newsOf_mem hL z e) hb)).1
    | some o' => rw [F.keep _ _ z] at e; cases e; exact F'.keep _ _ z
  refine ⟨m, _, ⟨⟨mv, F', em⟩, fun b c hb => ?_⟩, ⟨fun b o hL hn e => ?_, rfl, rfl⟩, q⟩
  · by_cases z : b = d
    · subst z; rw [AHeap.set_same] at hb; cases hb
      exact ⟨hdL, hd0, _, (N' _ h1).1, _, _, rfl, by (first | lia | omega), har'⟩
    · rw [AHeap.set_ne _ _ z] at hb
      obtain ⟨h1, h2, o, h3, h4⟩ := S.cells b c hb; exact ⟨h1, h2, o, hk _ _ z h1 h3, h4⟩
  · have z : b ≠ d := fun z => by rw [z, hd] at hn; cases hn
    exact ⟨hk _ _ z hL e, by rw [AHeap.set_ne _ _ z]; exact hn⟩
theorem s_assign_attr {o e : Expr} {name : Str} {p pos : Pos} {QS : Flow → Loc → AHeap → Prop} (hs : swapsWith e (some (.Attribute o name p)) pos.line env = pure false)
    (h : JE a A L m (eval e env) H (fun v H₁ => JE a A L m (eval o env) H₁ (fun x H₂ => ∀ v' x', er v' = v → er x' = x → JU a A L m (setAttr x' name v') H₂ (fun m' H' => QS .next m' H')))) :
    JS a A L m (exec (.Assign [.Attribute o name p] e pos) env) H QS :=
  fun _ S => plainObj_wpAny_Assign_Attribute (h.then S fun v _ _ S₁ T₁ q₁ => J.then q₁ S₁ fun x _ _ S₂ T₂ q₂ => JU.carry (q₂ v x rfl rfl) S₂ (T₁.trans T₂)) hs

/-! ### calls -/
def KeepOk (K : Frag) (f : Value) : Prop := (∃ n, f = .builtin n) ∨ (∃ n, f = .type n) ∨ (∃ x, f = .ref x ∧ keepIn K f = true)
theorem keepOk_looks {K : Frag} {f : Value} (h : KeepOk K f) {M : Model} (hp : Heap) (X : K.In hp) : ∃ k, (k = Keeper.frame ∨ k = Keeper.machine ∨ k = Keeper.boundFrame) ∧ Looks M hp (keeperOf f) k := by
  rcases h with ⟨n, rfl⟩ | ⟨n, rfl⟩ | ⟨x, rfl, h⟩
  · exact ⟨.machine, .inr (.inl rfl), Looks.of_pure rfl⟩
  · exact ⟨.machine, .inr (.inl rfl), Looks.of_pure rfl⟩
  · exact keeps_K h hp X
theorem KeepOk.eq {K : Frag} {f g : Value} (h : KeepOk K f) (e : er g = f) : g = f := by
  rcases h with ⟨n, rfl⟩ | ⟨n, rfl⟩ | ⟨x, rfl, h⟩
  · exact er_builtin e
  · exact er_type e
  · exact er_ref e
/-- the call of a value, its arguments evaluated -/
theorem callWith_any {s : Shared} {pos : Pos} {f : Value} {first : List Value} {args : List Expr} {P : Value → Shared → Prop} (hk : KeepOk (KF a.w.params) f) (S : St a L m H s) (hst : ∀ e ∈ args, ∀ rest, starEach (e :: rest) env = (false, eval e env) :: starEach rest env)
    (h : JX a A L m pos args env H (fun vs H₁ => ∀ vs' s₁, vs'.map er = vs → St a L m H₁ s₁ → Step L H s H₁ s₁ → wpAny (model a.prog a.w) A (call f (first ++ vs')) P (fun _ _ => False) s₁)) :
    wpAny (model a.prog a.w) A (callWith pos f first (backTo pos (starEach args env)) []) P (fun _ _ => False) s := by
  cases args with
  | nil =>
    refine callWith_of (P := (KF a.w.params).In) rfl (fun hp X => keepOk_looks hk hp X) (evalArgs_nil3 ⟨S.X, ?_⟩)
    have := h s S
    have h2 : wpAny (model a.prog a.w) A (pure ([] : List Value)) (fun v s' => wpAny (model a.prog a.w) A (call f (first ++ v)) P (fun _ _ => False) s') (fun _ _ => False) s :=
      wpAny_mono this (fun v s' ⟨H', S', T', q⟩ => q v s' rfl S' T') fun _ _ x => x
    intro Γ p hΓ
    exact h2 Γ p hΓ Γ p hΓ
  | cons e rest =>
    have plain : ∀ l : List Expr, (∀ e ∈ l, ∀ rest, starEach (e :: rest) env = (false, eval e env) :: starEach rest env) → (backTo pos (starEach l env)).any (·.1) = false := by
      intro l
      induction l with
      | nil => intro _; rfl
      | cons e r ih =>
        intro hl
        rw [hl e (.head _) r]
        show (false || (backTo pos (starEach r env)).any (·.1)) = false
        rw [ih fun e he => hl e (.tail _ he)]; rfl
    refine callWith_of (P := (KF a.w.params).In) (by rw [plain _ hst]; rfl) (fun hp X => keepOk_looks hk hp X) ?_
    have he := hst e (.head _) rest
    have hb : backTo pos (starEach (e :: rest) env) = (false, eval e env) :: backTo pos (starEach rest env) := by rw [he]; rfl
    have h2 := h s S
    rw [hb] at h2 ⊢
    exact evalArgs_plain (wpAny_mono h2 (fun v s' ⟨H', S', T', q⟩ => ⟨S'.X, q v s' rfl S' T'⟩) fun _ _ x => x)
theorem e_call {x : Str} {p pos : Pos} {args : List Expr} (hst : ∀ e ∈ args, ∀ rest, starEach (e :: rest) env = (false, eval e env) :: starEach rest env)
    (h : JE a A L m (eval (.Name x p) env) H (fun f H₁ => KeepOk (KF a.w.params) f ∧ JX a A L m pos args env H₁ (fun vs H₂ => OC a A L m f vs H₂ Q))) : JE a A L m (eval (.Call (.Name x p) args [] pos) env) H Q :=
  fun s S => wpAny_Call_NameR (h.then S fun f s₁ H₁ S₁ T₁ ⟨hk, q₁⟩ => by
    have e := hk.eq (g := f) rfl
    rw [← e] at hk q₁
    exact callWith_any hk S₁ hst (q₁.mono fun vs H₂ q₂ vs' s₂ hv S₂ T₂ => (q₂ vs' hv).carry S₂ (T₁.trans T₂)))
/-- a method of an own class -/
theorem e_meth {o : Expr} {name : Str} {apos pos : Pos} {args : List Expr} {pl : Sem Bool} (he : eval (.Call (.Attribute o name apos) args [] pos) env = (do
      let ov ← eval o env
      standAt apos.atName
      let (f, first) ← holding [ov] (getMethod ov name pl)
      callWith pos f first (backTo pos (starEach args env)) (backToKw pos (keywordEach [] env)))) (hst : ∀ e ∈ args, ∀ rest, starEach (e :: rest) env = (false, eval e env) :: starEach rest env)
    (h : JE a A L m (eval o env) H (fun r H₁ => ∃ x C d fs f, r = .ref x ∧ H₁ x = some (.inst C d) ∧ H₁ d = some (.attrs fs) ∧ fs.lookup name = none ∧ plainGet (KF a.w.params) C name = true ∧ findIn (KF a.w.params) (.ref C) name = some (some (.ref f)) ∧ isFn (KF a.w.params) (.ref f) = true ∧ keepIn (KF a.w.params) (.ref f) = true ∧
      JX a A L m pos args env H₁ (fun vs H₂ => OC a A L m (.ref f) (.ref x :: vs) H₂ Q))) : JE a A L m (eval (.Call (.Attribute o name apos) args [] pos) env) H Q :=
  fun s S => methodCall_KW (h.then S fun r s₁ H₁ S₁ T₁ q => by
    obtain ⟨x, C, d, fs, f, hr, hx, hd, hn, hg, hf, hi, hk, q⟩ := q
    rw [er_ref hr]
    obtain ⟨es, n, I, _, har, _⟩ := S₁.inst hx hd
    obtain ⟨r', hr', he'⟩ := har.getL name
    rw [hn] at he'
    have : r' = none := by cases r' <;> simp at he' ⊢
    subst this
    obtain ⟨mv, F, _⟩ := S₁.fr
    refine method_inst F a.X I hg hf hi hr' ?_
    exact callWith_any (env := env) (.inr (.inr ⟨f, rfl, hk⟩)) S₁ hst (q.mono fun vs H₂ q₂ vs' s₂ hv S₂ T₂ => (q₂ (.ref x :: vs') (by rw [List.map_cons, hv]; rfl)).carry S₂ (T₁.trans T₂))) he

def retOf : Flow → Value
  | .ret v => v
  | _ => .none
theorem lookup_er : ∀ (bs : List (Str × Value)) (x : Str), (bs.lookup x).map er = (bs.map fun p => (p.1, er p.2)).lookup x
  | [], _ => rfl
  | (y, v) :: r, x => by
    rw [List.map_cons, List.lookup_cons, List.lookup_cons]
    cases x == y
    · exact lookup_er r x
    · rfl
/-- a call's code -/
def CA (a : Amb KF) (A : Around) (L : Addr) (m : Loc) (fn : Value) (vs : List Value) (H : AHeap) (Q : Value → AHeap → Prop) : Prop :=
  ∀ vs', vs'.map er = vs → ∀ s, St a L m H s → codeAny (model a.prog a.w) A (.call fn ⟨vs', []⟩) (fun r s' => match r with | .ok (.ret v) => ∃ H', St a L m H' s' ∧ Step L H s H' s' ∧ Q (er v) H' | .ok _ => False | .error _ => False) s
theorem CA.oc {fn : Value} {vs : List Value} (h : CA a A L m fn vs H Q) : OC a A L m fn vs H Q := fun vs' hv s S => wpAny_call (codeAny_mono (h vs' hv s S) fun r s' q => by
  rcases r with e | (_ | _ | _ | v) <;> exact q)
theorem St.back {s s' : Shared} {C : Addr} {mC : Loc} {H' : AHeap} (S : St a L m H s) (S' : St a C mC H' s') (T : Step C H s H' s') (hLC : L ≠ C) : St a L m H' s' := by
  obtain ⟨mv, F, em⟩ := S.fr
  have hLn : H L = none := by
    cases z : H L with
    | none => rfl
    | some c => exact absurd rfl (S.cells _ _ z).1
  obtain ⟨oL, es, ep, hL, hLr⟩ := F.ns
  have hL' := T.keep L oL hLC hLn hL
  refine ⟨⟨mv, ⟨⟨oL, es, ep, hL'.1, hLr⟩, fun b o e => S'.keep b o e, F.above⟩, em⟩, fun b c hb => ?_⟩
  obtain ⟨h1, h2, r⟩ := S'.cells b c hb
  exact ⟨(fun z => by rw [z, hL'.2] at hb; cases hb), h2, r⟩
theorem Step.sub {s₀ s s' : Shared} {C : Addr} {H₀ H' : AHeap} (T₀ : Step L H₀ s₀ H s) (T : Step C H s H' s') (hC : s₀.heap.get? C = none) : Step L H₀ s₀ H' s' :=
  ⟨fun b o hL hn e => let ⟨e₁, n₁⟩ := T₀.keep b o hL hn e; T.keep b o (fun z => by rw [z, hC] at e; cases e) n₁ e₁, T.gens.trans T₀.gens, T.os.trans T₀.os⟩
/-- a frame of its own over the same cells -/
theorem St.inner {s s' : Shared} {C : Addr} {mv : Str → Option Value} {mC : Loc} (S : St a L m H s) (hC : s.heap.get? C = none) (hge : a.h₀.objs.size ≤ C) (hns : s'.heap.Ns C mv) (hm : ∀ x, (mv x).map er = mC x) (hk : ∀ b o, s.heap.get? b = some o → s'.heap.get? b = some o) : St a C mC H s' :=
  ⟨⟨mv, ⟨hns, fun b o e => hk b o (S.keep b o e), hge⟩, hm⟩, fun b c hb => by
    obtain ⟨h1, h2, o, h3, h4⟩ := S.cells b c hb
    exact ⟨(fun e => by rw [e, hC] at h3; cases h3), h2, o, hk _ _ h3, h4⟩⟩
theorem St.above {s : Shared} (S : St a L m H s) : a.h₀.objs.size ≤ s.heap.objs.size := by
  obtain ⟨mv, F, em⟩ := S.fr
  obtain ⟨o, _, _, ho, _⟩ := F.ns
  exact Nat.le_trans F.above (Nat.le_of_lt (Heap.lt_size ho))
/-- the call of a def of the text -/
theorem c_def {f : Addr} {vs : List Value} {bs : List (Str × Value)} {oc : Value} {od : Option Addr} {osl : Array (Option Value)} {name qual : Str} {params : Arguments} {body : List Stmt} {scope : Scope} {dV kV doc pm cdv ct : Value} {an : Option Addr}
    (ho : (KF a.w.params).lookup f = some ⟨oc, od, .func (fnOf name qual params body scope dV kV doc pm an cdv ct), osl⟩) (hcd : codeIn (KF a.w.params) cdv qual = true) {d : Nat} (hR : Rm A (d + 1))
    (hbind : ∀ (s : Shared) (vs' : List Value), (KF a.w.params).In s.heap → vs'.map er = vs → ∃ bs', BindsTo s (fnOf name qual params body scope dV kV doc pm an cdv ct) ⟨vs', []⟩ bs' ∧ bs'.map (fun p => (p.1, er p.2)) = bs)
    (hloc : ∀ y ∈ bs, scope.names.lookup y.1 = some .local)
    (hbody : ∀ L' A', Rm A' d → JS a A' L' (fun x => bs.reverse.lookup x) (execs body (envOf qual scope L' f cdv)) H (fun fl _ H' => Q (retOf fl) H'))
    (hco : scope.isCoroutine = false) (hgen : scope.isGenerator = false) (hk : scope.kind = .function) (hcell : ∀ x ∈ scope.names, x.2 ≠ .cell) : CA a A L m (.ref f) vs H Q := by
  intro vs' hv s S
  obtain ⟨bs', hb, hbe⟩ := hbind s vs' S.X hv
  have hloc' : ∀ x ∈ bs', scope.names.lookup x.1 = some .local := fun x hx => hloc (x.1, er x.2) (by rw [← hbe]; exact List.mem_map_of_mem (f := fun p : Str × Value => (p.1, er p.2)) hx)
  refine codeAny_call_def (fd := fnOf name qual params body scope dV kV doc pm an cdv ct) (body := body) (binds := bs') hR.depth' (S.X _ _ ho) rfl (a.lim.keeps S.keep) (codeRec_of S.X hcd) rfl hb hcell hloc' (fun h₁ hns hk₁ => ?_) hco hgen hk
  have hsz := get?_size s.heap
  have S₁ : St a s.heap.objs.size (fun x => bs.reverse.lookup x) H { s with heap := h₁, toks := s.toks + bs'.length } :=
    S.inner hsz S.above hns (fun x => by rw [lookup_er, ← hbe, List.map_reverse]) hk₁
  have hLs : L ≠ s.heap.objs.size := Ne.symm (S.neL hsz)
  obtain ⟨S₀, T₀⟩ := S.grown (s' := { s with heap := h₁, toks := s.toks + bs'.length }) hk₁ rfl rfl
  refine wpAny_mono (hbody s.heap.objs.size _ (hR.deeper _) _ S₁) (fun fl s' ⟨m', H', S', T', q⟩ => ?_) fun _ _ x => x.elim
  refine ⟨H', S₀.back S' T' hLs, T₀.sub T' hsz, ?_⟩
  cases fl <;> exact q
end
end
-- K
section
noncomputable abbrev KH : Params → Frag := hd.heap_39
example : (fun (_ : OpenLaw) (_ : Params → Frag) => True) PySem.Challenge.rw_nn0314_01 hd.heap_39 := by
  k_fill
  trivial
structure MethOk (K : Frag) (C : Addr) (name : Str) (f : Addr) : Prop where
  plain : plainGet K C name = true
  find : findIn K (.ref C) name = some (some (.ref f))
  fn : isFn K (.ref f) = true
  keep : keepIn K (.ref f) = true

theorem f_count (P : Params) : FieldOk (hd.heap_39 P) 190 (Str.ofString "count") := ⟨by k_is, by k_is, by k_is⟩
theorem t_count (P : Params) : StoreOk (hd.heap_39 P) 190 (Str.ofString "count") := ⟨by k_is, by k_is, by k_is, by k_is⟩
theorem f_clauses (P : Params) : FieldOk (hd.heap_39 P) 190 (Str.ofString "clauses") := ⟨by k_is, by k_is, by k_is⟩
theorem t_clauses (P : Params) : StoreOk (hd.heap_39 P) 190 (Str.ofString "clauses") := ⟨by k_is, by k_is, by k_is, by k_is⟩
theorem f_watches (P : Params) : FieldOk (hd.heap_39 P) 190 (Str.ofString "watches") := ⟨by k_is, by k_is, by k_is⟩
theorem t_watches (P : Params) : StoreOk (hd.heap_39 P) 190 (Str.ofString "watches") := ⟨by k_is, by k_is, by k_is, by k_is⟩
theorem f_values (P : Params) : FieldOk (hd.heap_39 P) 190 (Str.ofString "values") := ⟨by k_is, by k_is, by k_is⟩
theorem t_values (P : Params) : StoreOk (hd.heap_39 P) 190 (Str.ofString "values") := ⟨by k_is, by k_is, by k_is, by k_is⟩
theorem f_levels (P : Params) : FieldOk (hd.heap_39 P) 190 (Str.ofString "levels") := ⟨by k_is, by k_is, by k_is⟩
theorem t_levels (P : Params) : StoreOk (hd.heap_39 P) 190 (Str.ofString "levels") := ⟨by k_is, by k_is, by k_is, by k_is⟩
theorem f_reasons (P : Params) : FieldOk (hd.heap_39 P) 190 (Str.ofString "reasons") := ⟨by k_is, by k_is, by k_is⟩
theorem t_reasons (P : Params) : StoreOk (hd.heap_39 P) 190 (Str.ofString "reasons") := ⟨by k_is, by k_is, by k_is, by k_is⟩
theorem f_phases (P : Params) : FieldOk (hd.heap_39 P) 190 (Str.ofString "phases") := ⟨by k_is, by k_is, by k_is⟩
theorem t_phases (P : Params) : StoreOk (hd.heap_39 P) 190 (Str.ofString "phases") := ⟨by k_is, by k_is, by k_is, by k_is⟩
theorem f_activity (P : Params) : FieldOk (hd.heap_39 P) 190 (Str.ofString "activity") := ⟨by k_is, by k_is, by k_is⟩
theorem t_activity (P : Params) : StoreOk (hd.heap_39 P) 190 (Str.ofString "activity") := ⟨by k_is, by k_is, by k_is, by k_is⟩
theorem f_step (P : Params) : FieldOk (hd.heap_39 P) 190 (Str.ofString "step") := ⟨by k_is, by k_is, by k_is⟩
theorem t_step (P : Params) : StoreOk (hd.heap_39 P) 190 (Str.ofString "step") := ⟨by k_is, by k_is, by k_is, by k_is⟩
theorem f_trail (P : Params) : FieldOk (hd.heap_39 P) 190 (Str.ofString "trail") := ⟨by k_is, by k_is, by k_is⟩
theorem t_trail (P : Params) : StoreOk (hd.heap_39 P) 190 (Str.ofString "trail") := ⟨by k_is, by k_is, by k_is, by k_is⟩
theorem f_limits (P : Params) : FieldOk (hd.heap_39 P) 190 (Str.ofString "limits") := ⟨by k_is, by k_is, by k_is⟩
theorem t_limits (P : Params) : StoreOk (hd.heap_39 P) 190 (Str.ofString "limits") := ⟨by k_is, by k_is, by k_is, by k_is⟩
theorem f_head (P : Params) : FieldOk (hd.heap_39 P) 190 (Str.ofString "head") := ⟨by k_is, by k_is, by k_is⟩
theorem t_head (P : Params) : StoreOk (hd.heap_39 P) 190 (Str.ofString "head") := ⟨by k_is, by k_is, by k_is, by k_is⟩
theorem f_learned (P : Params) : FieldOk (hd.heap_39 P) 190 (Str.ofString "learned") := ⟨by k_is, by k_is, by k_is⟩
theorem t_learned (P : Params) : StoreOk (hd.heap_39 P) 190 (Str.ofString "learned") := ⟨by k_is, by k_is, by k_is, by k_is⟩
theorem f_refuted (P : Params) : FieldOk (hd.heap_39 P) 190 (Str.ofString "refuted") := ⟨by k_is, by k_is, by k_is⟩
theorem t_refuted (P : Params) : StoreOk (hd.heap_39 P) 190 (Str.ofString "refuted") := ⟨by k_is, by k_is, by k_is, by k_is⟩
theorem f_found (P : Params) : FieldOk (hd.heap_39 P) 190 (Str.ofString "found") := ⟨by k_is, by k_is, by k_is⟩
theorem t_found (P : Params) : StoreOk (hd.heap_39 P) 190 (Str.ofString "found") := ⟨by k_is, by k_is, by k_is, by k_is⟩
theorem k_value (P : Params) : MethOk (hd.heap_39 P) 190 (Str.ofString "value") 54 := ⟨by k_is, by k_is, by k_is, by k_is⟩
theorem k_level (P : Params) : MethOk (hd.heap_39 P) 190 (Str.ofString "level") 61 := ⟨by k_is, by k_is, by k_is, by k_is⟩
theorem k_add (P : Params) : MethOk (hd.heap_39 P) 190 (Str.ofString "add") 68 := ⟨by k_is, by k_is, by k_is, by k_is⟩
theorem k_attach (P : Params) : MethOk (hd.heap_39 P) 190 (Str.ofString "attach") 75 := ⟨by k_is, by k_is, by k_is, by k_is⟩
theorem k_learn (P : Params) : MethOk (hd.heap_39 P) 190 (Str.ofString "learn") 82 := ⟨by k_is, by k_is, by k_is, by k_is⟩
theorem k_refute (P : Params) : MethOk (hd.heap_39 P) 190 (Str.ofString "refute") 89 := ⟨by k_is, by k_is, by k_is, by k_is⟩
theorem k_assign (P : Params) : MethOk (hd.heap_39 P) 190 (Str.ofString "assign") 96 := ⟨by k_is, by k_is, by k_is, by k_is⟩
theorem k_decide (P : Params) : MethOk (hd.heap_39 P) 190 (Str.ofString "decide") 103 := ⟨by k_is, by k_is, by k_is, by k_is⟩
theorem k_cancel (P : Params) : MethOk (hd.heap_39 P) 190 (Str.ofString "cancel") 110 := ⟨by k_is, by k_is, by k_is, by k_is⟩
theorem k_propagate (P : Params) : MethOk (hd.heap_39 P) 190 (Str.ofString "propagate") 117 := ⟨by k_is, by k_is, by k_is, by k_is⟩
theorem k_still_watched (P : Params) : MethOk (hd.heap_39 P) 190 (Str.ofString "still_watched") 124 := ⟨by k_is, by k_is, by k_is, by k_is⟩
theorem k_forces (P : Params) : MethOk (hd.heap_39 P) 190 (Str.ofString "forces") 131 := ⟨by k_is, by k_is, by k_is, by k_is⟩
theorem k_bump (P : Params) : MethOk (hd.heap_39 P) 190 (Str.ofString "bump") 138 := ⟨by k_is, by k_is, by k_is, by k_is⟩
theorem k_analyze (P : Params) : MethOk (hd.heap_39 P) 190 (Str.ofString "analyze") 145 := ⟨by k_is, by k_is, by k_is, by k_is⟩
theorem k_ordered (P : Params) : MethOk (hd.heap_39 P) 190 (Str.ofString "ordered") 152 := ⟨by k_is, by k_is, by k_is, by k_is⟩
theorem k_free_variable (P : Params) : MethOk (hd.heap_39 P) 190 (Str.ofString "free_variable") 159 := ⟨by k_is, by k_is, by k_is, by k_is⟩
theorem k_assume (P : Params) : MethOk (hd.heap_39 P) 190 (Str.ofString "assume") 166 := ⟨by k_is, by k_is, by k_is, by k_is⟩
theorem k_solve (P : Params) : MethOk (hd.heap_39 P) 190 (Str.ofString "solve") 173 := ⟨by k_is, by k_is, by k_is, by k_is⟩
theorem k_leave (P : Params) : MethOk (hd.heap_39 P) 190 (Str.ofString "leave") 180 := ⟨by k_is, by k_is, by k_is, by k_is⟩
theorem k_model (P : Params) : MethOk (hd.heap_39 P) 190 (Str.ofString "model") 187 := ⟨by k_is, by k_is, by k_is, by k_is⟩
theorem g_luby (P : Params) : nsIn (hd.heap_39 P) mainGlobals (Str.ofString "luby") = some (some (.ref 21)) := by k_is
theorem k_luby (P : Params) : keepIn (hd.heap_39 P) (.ref 21) = true := by k_is
theorem g_slot (P : Params) : nsIn (hd.heap_39 P) mainGlobals (Str.ofString "slot") = some (some (.ref 28)) := by k_is
theorem k_slot (P : Params) : keepIn (hd.heap_39 P) (.ref 28) = true := by k_is
theorem g_plain_clause (P : Params) : nsIn (hd.heap_39 P) mainGlobals (Str.ofString "plain_clause") = some (some (.ref 35)) := by k_is
theorem k_plain_clause (P : Params) : keepIn (hd.heap_39 P) (.ref 35) = true := by k_is
theorem g_law_pick (P : Params) : nsIn (hd.heap_39 P) mainGlobals (Str.ofString "_law_pick") = some (some (.ref 201)) := by k_is
theorem k_law_pick (P : Params) : keepIn (hd.heap_39 P) (.ref 201) = true := by k_is
theorem g_law_true (P : Params) : nsIn (hd.heap_39 P) mainGlobals (Str.ofString "_law_true") = some (some (.ref 208)) := by k_is
theorem k_law_true (P : Params) : keepIn (hd.heap_39 P) (.ref 208) = true := by k_is
theorem g_law_literal (P : Params) : nsIn (hd.heap_39 P) mainGlobals (Str.ofString "_law_literal") = some (some (.ref 215)) := by k_is
theorem k_law_literal (P : Params) : keepIn (hd.heap_39 P) (.ref 215) = true := by k_is
theorem g_RESTART_UNIT (P : Params) : nsIn (hd.heap_39 P) mainGlobals (Str.ofString "RESTART_UNIT") = some (some (.int 32 189)) := by k_is
theorem g_ACTIVITY_LIMIT (P : Params) : nsIn (hd.heap_39 P) mainGlobals (Str.ofString "ACTIVITY_LIMIT") = some (some (.int 1000000000000 193)) := by k_is
theorem g_ACTIVITY_SCALE (P : Params) : nsIn (hd.heap_39 P) mainGlobals (Str.ofString "ACTIVITY_SCALE") = some (some (.int 1000000 197)) := by k_is
theorem g_Solver (P : Params) : nsIn (hd.heap_39 P) mainGlobals (Str.ofString "Solver") = some (some (.ref 190)) := by k_is
theorem k_Solver (P : Params) : keepIn (hd.heap_39 P) (.ref 190) = true := by k_is
theorem cd_value (P : Params) : codeIn (hd.heap_39 P) (.ref 53) (Str.ofString "Solver.value") = true := by k_is
def at_value (P : Params) := (show List.lookup 54 (hd.heap_39 P) = some _ from by k_is)
theorem cd_level (P : Params) : codeIn (hd.heap_39 P) (.ref 60) (Str.ofString "Solver.level") = true := by k_is
def at_level (P : Params) := (show List.lookup 61 (hd.heap_39 P) = some _ from by k_is)
theorem cd_add (P : Params) : codeIn (hd.heap_39 P) (.ref 67) (Str.ofString "Solver.add") = true := by k_is
def at_add (P : Params) := (show List.lookup 68 (hd.heap_39 P) = some _ from by k_is)
theorem cd_attach (P : Params) : codeIn (hd.heap_39 P) (.ref 74) (Str.ofString "Solver.attach") = true := by k_is
def at_attach (P : Params) := (show List.lookup 75 (hd.heap_39 P) = some _ from by k_is)
theorem cd_learn (P : Params) : codeIn (hd.heap_39 P) (.ref 81) (Str.ofString "Solver.learn") = true := by k_is
def at_learn (P : Params) := (show List.lookup 82 (hd.heap_39 P) = some _ from by k_is)
theorem cd_refute (P : Params) : codeIn (hd.heap_39 P) (.ref 88) (Str.ofString "Solver.refute") = true := by k_is
def at_refute (P : Params) := (show List.lookup 89 (hd.heap_39 P) = some _ from by k_is)
theorem cd_assign (P : Params) : codeIn (hd.heap_39 P) (.ref 95) (Str.ofString "Solver.assign") = true := by k_is
def at_assign (P : Params) := (show List.lookup 96 (hd.heap_39 P) = some _ from by k_is)
theorem cd_decide (P : Params) : codeIn (hd.heap_39 P) (.ref 102) (Str.ofString "Solver.decide") = true := by k_is
def at_decide (P : Params) := (show List.lookup 103 (hd.heap_39 P) = some _ from by k_is)
theorem cd_cancel (P : Params) : codeIn (hd.heap_39 P) (.ref 109) (Str.ofString "Solver.cancel") = true := by k_is
def at_cancel (P : Params) := (show List.lookup 110 (hd.heap_39 P) = some _ from by k_is)
theorem cd_propagate (P : Params) : codeIn (hd.heap_39 P) (.ref 116) (Str.ofString "Solver.propagate") = true := by k_is
def at_propagate (P : Params) := (show List.lookup 117 (hd.heap_39 P) = some _ from by k_is)
theorem cd_still_watched (P : Params) : codeIn (hd.heap_39 P) (.ref 123) (Str.ofString "Solver.still_watched") = true := by k_is
def at_still_watched (P : Params) := (show List.lookup 124 (hd.heap_39 P) = some _ from by k_is)
theorem cd_forces (P : Params) : codeIn (hd.heap_39 P) (.ref 130) (Str.ofString "Solver.forces") = true := by k_is
def at_forces (P : Params) := (show List.lookup 131 (hd.heap_39 P) = some _ from by k_is)
theorem cd_bump (P : Params) : codeIn (hd.heap_39 P) (.ref 137) (Str.ofString "Solver.bump") = true := by k_is
def at_bump (P : Params) := (show List.lookup 138 (hd.heap_39 P) = some _ from by k_is)
theorem cd_analyze (P : Params) : codeIn (hd.heap_39 P) (.ref 144) (Str.ofString "Solver.analyze") = true := by k_is
def at_analyze (P : Params) := (show List.lookup 145 (hd.heap_39 P) = some _ from by k_is)
theorem cd_ordered (P : Params) : codeIn (hd.heap_39 P) (.ref 151) (Str.ofString "Solver.ordered") = true := by k_is
def at_ordered (P : Params) := (show List.lookup 152 (hd.heap_39 P) = some _ from by k_is)
theorem cd_free_variable (P : Params) : codeIn (hd.heap_39 P) (.ref 158) (Str.ofString "Solver.free_variable") = true := by k_is
def at_free_variable (P : Params) := (show List.lookup 159 (hd.heap_39 P) = some _ from by k_is)
theorem cd_assume (P : Params) : codeIn (hd.heap_39 P) (.ref 165) (Str.ofString "Solver.assume") = true := by k_is
def at_assume (P : Params) := (show List.lookup 166 (hd.heap_39 P) = some _ from by k_is)
theorem cd_solve (P : Params) : codeIn (hd.heap_39 P) (.ref 172) (Str.ofString "Solver.solve") = true := by k_is
def at_solve (P : Params) := (show List.lookup 173 (hd.heap_39 P) = some _ from by k_is)
theorem cd_leave (P : Params) : codeIn (hd.heap_39 P) (.ref 179) (Str.ofString "Solver.leave") = true := by k_is
def at_leave (P : Params) := (show List.lookup 180 (hd.heap_39 P) = some _ from by k_is)
theorem cd_model (P : Params) : codeIn (hd.heap_39 P) (.ref 186) (Str.ofString "Solver.model") = true := by k_is
def at_model (P : Params) := (show List.lookup 187 (hd.heap_39 P) = some _ from by k_is)
theorem cd_luby (P : Params) : codeIn (hd.heap_39 P) (.ref 20) (Str.ofString "luby") = true := by k_is
def at_luby (P : Params) := (show List.lookup 21 (hd.heap_39 P) = some _ from by k_is)
theorem cd_slot (P : Params) : codeIn (hd.heap_39 P) (.ref 27) (Str.ofString "slot") = true := by k_is
def at_slot (P : Params) := (show List.lookup 28 (hd.heap_39 P) = some _ from by k_is)
theorem cd_plain_clause (P : Params) : codeIn (hd.heap_39 P) (.ref 34) (Str.ofString "plain_clause") = true := by k_is
def at_plain_clause (P : Params) := (show List.lookup 35 (hd.heap_39 P) = some _ from by k_is)
theorem cd_law_pick (P : Params) : codeIn (hd.heap_39 P) (.ref 200) (Str.ofString "_law_pick") = true := by k_is
def at_law_pick (P : Params) := (show List.lookup 201 (hd.heap_39 P) = some _ from by k_is)
theorem cd_law_true (P : Params) : codeIn (hd.heap_39 P) (.ref 207) (Str.ofString "_law_true") = true := by k_is
def at_law_true (P : Params) := (show List.lookup 208 (hd.heap_39 P) = some _ from by k_is)
theorem cd_law_literal (P : Params) : codeIn (hd.heap_39 P) (.ref 214) (Str.ofString "_law_literal") = true := by k_is
def at_law_literal (P : Params) := (show List.lookup 215 (hd.heap_39 P) = some _ from by k_is)
theorem cd_init (P : Params) : codeIn (hd.heap_39 P) (.ref 46) (Str.ofString "Solver.__init__") = true := by k_is
def at_init (P : Params) := (show List.lookup 47 (hd.heap_39 P) = some _ from by k_is)
theorem cd_law (P : Params) : codeIn (hd.heap_39 P) (.ref 219) (Str.ofString "law") = true := by k_is
def at_law (P : Params) := (show List.lookup 220 (hd.heap_39 P) = some _ from by k_is)
theorem i_init (P : Params) : findIn (hd.heap_39 P) (.ref 190) "__init__" = some (some (.ref 47)) := by k_is
theorem i_makes (P : Params) : makesIn (hd.heap_39 P) 190 = true := by k_is
theorem i_type (P : Params) : typeIn (hd.heap_39 P) (.ref 47) = some (.type "function") := by k_is
theorem n_len (P : Params) : nsIn (hd.heap_39 P) mainGlobals (Str.ofString "len") = some none := by k_is
theorem n_abs (P : Params) : nsIn (hd.heap_39 P) mainGlobals (Str.ofString "abs") = some none := by k_is
theorem n_range (P : Params) : nsIn (hd.heap_39 P) mainGlobals (Str.ofString "range") = some none := by k_is
theorem n_tuple (P : Params) : nsIn (hd.heap_39 P) mainGlobals (Str.ofString "tuple") = some none := by k_is
theorem n_list (P : Params) : nsIn (hd.heap_39 P) mainGlobals (Str.ofString "list") = some none := by k_is
theorem n_sum (P : Params) : nsIn (hd.heap_39 P) mainGlobals (Str.ofString "sum") = some none := by k_is
end
-- L5
section
variable {KF : Params → Frag}
section
variable {a : Amb KF} {A : Around} {L : Addr} {m : Loc} {H : AHeap} {env : Env} {Q : Value → AHeap → Prop} {QS : Flow → Loc → AHeap → Prop}

/-! ### iterators -/
structure Iter (a : Amb KF) (it : Addr) (vs : List Value) (K : AHeap → Prop) (W : Nat → Heap → Prop) : Prop where
  frame : ∀ i h h', W i h → (∀ o, h.get? it = some o → h'.get? it = some o) → W i h'
  alive : ∀ i h, W i h → ∃ o, h.get? it = some o
  self : ∀ {A : Around} {s : Shared} {P : Value → Shared → Prop} (i : Nat), W i s.heap → P (.ref it) s → wpAny (model a.prog a.w) A (pyIter (.ref it)) P (fun _ _ => False) s
  next : ∀ {A : Around} {L : Addr} {m : Loc} {H : AHeap} {s : Shared} (i : Nat), A.handled = none → St a L m H s → H it = none → K H → W i s.heap → i ≤ vs.length → wpAny (model a.prog a.w) A (pyNext (.ref it)) (fun r s' =>
    (∀ b o, b ≠ it → s.heap.get? b = some o → s'.heap.get? b = some o) ∧ s'.gens = s.gens ∧ s'.os = s.os ∧ ((∃ v x, vs[i]? = some x ∧ r = some v ∧ er v = x ∧ W (i + 1) s'.heap) ∨ (i = vs.length ∧ r = none))) (fun _ _ => False) s
def rangeV (lo hi : Int) : List Value := (List.range (hi - lo).toNat).map fun i : Nat => vi (lo + (i : Int))
inductive Iters (H : AHeap) : Value → List Value → (AHeap → Prop) → Prop
  | list {l : Addr} {vs : List Value} : H l = some (.list vs) → Iters H (.ref l) vs (fun H' => H' l = some (.list vs))
  | tuple {l : Addr} {vs : List Value} : H l = some (.tuple vs) → Iters H (.ref l) vs (fun H' => H' l = some (.tuple vs))
  | range {l : Addr} {lo hi : Int} : H l = some (.range lo hi) → lo.natAbs < 2 ^ 40 → hi.natAbs < 2 ^ 40 → Iters H (.ref l) (rangeV lo hi) (fun _ => True)
theorem Iters.here {v : Value} {vs : List Value} {K : AHeap → Prop} (h : Iters H v vs K) : K H := by cases h <;> first | assumption | trivial
theorem iter_list (it l : Addr) (vs : List Value) : Iter a it vs (fun H' => H' l = some (.list vs)) (fun i h => h.IsListIter it l i) := by
  refine ⟨fun i h h' ⟨o, ho, r⟩ k => ⟨o, k o ho, r⟩, fun i h ⟨o, ho, _⟩ => ⟨o, ho⟩, fun i hW q => wpAny_pyIter_listiter hW q, fun {A L m H s} i hh S hn hK hW hi => ?_⟩
  obtain ⟨its, n, hl, e⟩ := S.list hK
  have hne : l ≠ it := fun z => by rw [z, hn] at hK; cases hK
  have hz := size_of e
  have Wk := Walks.list (prog := a.prog) (w := a.w) hh it l hne its
  rcases Nat.lt_or_ge i vs.length with hlt | hge
  · refine Wk.item i s _ _ (by (first | lia | omega)) ⟨hW, hl.isList⟩ (fun v h' tk hP hW' hk => ⟨fun b o hb e => hk b o (by simpa using hb) e, rfl, rfl, .inl ⟨v, vs[i], by simp [hlt], rfl, ?_, hW'.1⟩⟩)
    have : (its.toList.map er)[i]? = some (er v) := by rw [List.getElem?_map, Array.getElem?_toList, hP]; rfl
    rw [e] at this
    simpa [hlt] using this.symm
  · have hi' : i = its.size := by (first | lia | omega)
    subst hi'
    exact Wk.done s _ _ ⟨hW, hl.isList⟩ (fun h' tk hk => ⟨fun b o hb e => hk b o (by simpa using hb) e, rfl, rfl, .inr ⟨hz, rfl⟩⟩)
theorem iter_tuple (it l : Addr) (vs : List Value) : Iter a it vs (fun H' => H' l = some (.tuple vs)) (fun i h => h.IsTupleIter it l i) := by
  refine ⟨fun i h h' ⟨o, ho, r⟩ k => ⟨o, k o ho, r⟩, fun i h ⟨o, ho, _⟩ => ⟨o, ho⟩, fun i hW q => wpAny_pyIter_tupleiter hW q, fun {A L m H s} i hh S hn hK hW hi => ?_⟩
  obtain ⟨its, n, hl, e⟩ := S.tuple hK
  have hne : l ≠ it := fun z => by rw [z, hn] at hK; cases hK
  have hz := size_of e
  have Wk := Walks.tuple (prog := a.prog) (w := a.w) hh it l hne its
  rcases Nat.lt_or_ge i vs.length with hlt | hge
  · refine Wk.item i s _ _ (by (first | lia | omega)) ⟨hW, ⟨_, hl, rfl, _, rfl⟩⟩ (fun v h' tk hP hW' hk => ⟨fun b o hb e => hk b o (by simpa using hb) e, rfl, rfl, .inl ⟨v, vs[i], by simp [hlt], rfl, ?_, hW'.1⟩⟩)
    have : (its.toList.map er)[i]? = some (er v) := by rw [List.getElem?_map, Array.getElem?_toList, hP]; rfl
    rw [e] at this
    simpa [hlt] using this.symm
  · have hi' : i = its.size := by (first | lia | omega)
    subst hi'
    exact Wk.done s _ _ ⟨hW, ⟨_, hl, rfl, _, rfl⟩⟩ (fun h' tk hk => ⟨fun b o hb e => hk b o (by simpa using hb) e, rfl, rfl, .inr ⟨hz, rfl⟩⟩)
theorem rangeV_length (lo hi : Int) : (rangeV lo hi).length = (hi - lo).toNat := by simp [rangeV]
theorem rangeV_get (lo hi : Int) {i : Nat} (h : i < (hi - lo).toNat) : (rangeV lo hi)[i]? = some (vi (lo + (i : Int))) := by simp [rangeV, h]
theorem iter_range (it : Addr) (lo hi : Int) : Iter a it (rangeV lo hi) (fun _ => True) (fun i h => IsRangeIter h it (lo + (i : Int) * 1) (((hi - lo).toNat : Nat) - (i : Int)) 1) := by
  refine ⟨fun i h h' hW k => k _ hW, fun i h hW => ⟨_, hW⟩, fun i hW q => wpAny_pyIter_rangeiter hW q, fun {A L m H s} i hh S hn hK hW hi' => ?_⟩
  rw [rangeV_length] at hi' ⊢
  have Wk := Walks.range (prog := a.prog) (w := a.w) hh it lo 1 (hi - lo).toNat
  rcases Nat.lt_or_ge i (hi - lo).toNat with hlt | hge
  · refine Wk.item i s _ _ hlt hW (fun v h' tk hP hW' hk => ⟨fun b o hb e => hk b o (by simpa using hb) e, rfl, rfl, .inl ⟨v, _, rangeV_get lo hi hlt, rfl, ?_, hW'⟩⟩)
    obtain ⟨t, rfl⟩ := hP
    simp [er]
  · have hi'' : i = (hi - lo).toNat := by (first | lia | omega)
    subst hi''
    exact Wk.done s _ _ hW (fun h' tk hk => ⟨fun b o hb e => hk b o (by simpa using hb) e, rfl, rfl, .inr ⟨rfl, rfl⟩⟩)
theorem fit40 {i : Int} (h : i.natAbs < 2 ^ 40) : -1099511627776 ≤ i ∧ i < 1099511627776 := by (first | lia | omega)
theorem iter_of {v v' : Value} {vs : List Value} {K : AHeap → Prop} {s : Shared} {P : Value → Shared → Prop} (h : Iters H v vs K) (S : St a L m H s) (hv : er v' = v)
    (k : ∀ it W s', Iter a it vs K W → W 0 s'.heap → s.heap.get? it = none → (∀ b o, s.heap.get? b = some o → s'.heap.get? b = some o) → s'.gens = s.gens → s'.os = s.os → P (.ref it) s') : wpAny (model a.prog a.w) A (pyIter v') P (fun _ _ => False) s := by
  cases h with
  | @list l vs hl =>
    rw [er_ref hv]
    obtain ⟨its, n, hl', e⟩ := S.list hl
    exact wpAny_pyIter_list hl'.isList (k _ _ _ (iter_list _ l _) ⟨_, Heap.get?_push_size _ rfl, rfl, rfl⟩ (get?_size _) (fun b o e => Heap.get?_push_of_some _ e) rfl rfl)
  | @tuple l vs hl =>
    rw [er_ref hv]
    obtain ⟨its, n, hl', e⟩ := S.tuple hl
    exact wpAny_pyIter_tuple ⟨_, hl', rfl, _, rfl⟩ (k _ _ _ (iter_tuple _ l _) ⟨_, Heap.get?_push_size _ rfl, rfl, rfl⟩ (get?_size _) (fun b o e => Heap.get?_push_of_some _ e) rfl rfl)
  | @range l lo hi hl h1 h2 =>
    rw [er_ref hv]
    obtain ⟨_, _, o, ho, t, u, w, rfl⟩ := S.cells _ _ hl
    have hs : Builtin.Range.rangeSize lo hi 1 = ((hi - lo).toNat : Nat) := by
      unfold Builtin.Range.rangeSize
      simp
      split
      · rename_i h; exact (Int.max_eq_left (Int.le_of_lt (Int.sub_pos_of_lt h))).symm
      · rename_i h; exact (Int.max_eq_right (Int.sub_nonpos_of_le (Int.not_lt.mp h))).symm
    refine wpAny_pyIter_range ho ?_ (k _ _ _ (iter_range _ lo hi) ?_ (get?_size _) (fun b o e => Heap.get?_push_of_some _ e) rfl rfl)
    · unfold Builtin.Range.small Builtin.Range.rangeFitsLong
      rw [hs]
      simp
      have f1 := fit40 h1
      have f2 := fit40 h2
      exact ⟨⟨⟨⟨Int.le_trans (by decide) f1.1, Int.lt_trans f1.2 (by decide)⟩, Int.le_trans (by decide) f2.1, Int.lt_trans f2.2 (by decide)⟩, Int.le_trans (by decide) (Int.le_max_right _ _), Int.max_lt.mpr ⟨Int.lt_of_le_of_lt (Int.sub_le_sub (Int.le_of_lt f2.2) f1.1) (by decide), by decide⟩⟩, .inr ⟨Int.le_trans (by decide) f2.1, Int.lt_trans f2.2 (by decide)⟩⟩
    · rw [hs]
      have := Heap.get?_push_size s.heap (o := { cls := .type "range_iterator", data := .fields #[rawInt lo, rawInt ((hi - lo).toNat : Nat), rawInt 1] }) rfl
      simpa using this
theorem St.but {s s' : Shared} (S : St a L m H s) {it : Addr} (hn : H it = none) (hL : it ≠ L) (h0 : a.h₀.get? it = none) (hk : ∀ b o, b ≠ it → s.heap.get? b = some o → s'.heap.get? b = some o) : St a L m H s' := by
  obtain ⟨mv, F, e⟩ := S.fr
  refine ⟨⟨mv, ⟨?_, fun b o h => hk b o (fun z => by rw [z, h0] at h; cases h) (F.keep b o h), F.above⟩, e⟩, fun b c h => ?_⟩
  · obtain ⟨o, es, ep, h1, h2⟩ := F.ns; exact ⟨o, es, ep, hk _ _ (Ne.symm hL) h1, h2⟩
  · obtain ⟨h1, h2, o, h3, h4⟩ := S.cells b c h
    exact ⟨h1, h2, o, hk _ _ (fun z => by rw [z, hn] at h; cases h) h3, h4⟩
theorem Step.but {L it : Addr} {H₀ H : AHeap} {s₀ s s' : Shared} (T : Step L H₀ s₀ H s) (h0 : s₀.heap.get? it = none) (hk : ∀ b o, b ≠ it → s.heap.get? b = some o → s'.heap.get? b = some o) (hg : s'.gens = s.gens) (ho : s'.os = s.os) : Step L H₀ s₀ H s' :=
  ⟨fun b o hb hn e => ⟨hk b o (fun z => by rw [z, h0] at e; cases e) (T.keep b o hb hn e).1, (T.keep b o hb hn e).2⟩, hg.trans T.gens, ho.trans T.os⟩

/-- what a turn's end must say -/
def turnEnd (I : Loc → AHeap → Prop) (QS : Flow → Loc → AHeap → Prop) : Flow → Loc → AHeap → Prop
  | .next, m, H => I m H
  | .cont, m, H => I m H
  | .brk, m, H => QS .next m H
  | .ret v, m, H => QS (.ret v) m H

/-- a for's loop: what stands after i items -/
structure FC (a : Amb KF) (L it : Addr) (vs : List Value) (K : AHeap → Prop) (W : Nat → Heap → Prop) (I : Nat → Loc → AHeap → Prop) (H₁ : AHeap) (s₁ t : Shared) (i : Nat) (m₂ : Loc) (H₂ : AHeap) : Prop where
  hi : i ≤ vs.length
  inv : I i m₂ H₂
  kk : K H₂
  st : St a L m₂ H₂ t
  step : Step L H₁ s₁ H₂ t
  hit : H₂ it = none
  w : W i t.heap
def FS (a : Amb KF) (L it : Addr) (vs : List Value) (K : AHeap → Prop) (W : Nat → Heap → Prop) (I : Nat → Loc → AHeap → Prop) (H₁ : AHeap) (s₁ : Shared) (n : Nat) (t : Shared) : Prop :=
  ∃ i m₂ H₂, n = vs.length - i ∧ FC a L it vs K W I H₁ s₁ t i m₂ H₂
theorem FC.turn {it : Addr} {vs : List Value} {K : AHeap → Prop} {W : Nat → Heap → Prop} {I : Nat → Loc → AHeap → Prop} {H₁ H₂ H₃ H₄ : AHeap} {s₁ t t₁ t₂ t₃ : Shared} {i : Nat} {m₂ m₄ : Loc} (Wk : Iter a it vs K W) (hitL : it ≠ L) (hit0 : s₁.heap.get? it = none) (R : FC a L it vs K W I H₁ s₁ t i m₂ H₂)
    (k1 : ∀ b o, b ≠ it → t.heap.get? b = some o → t₁.heap.get? b = some o) (g1 : t₁.gens = t.gens) (o1 : t₁.os = t.os) (hW' : W (i + 1) t₁.heap) (hlt : i < vs.length) (T₅ : Step L H₂ t₁ H₃ t₂) (S₆ : St a L m₄ H₄ t₃) (T₆ : Step L H₃ t₂ H₄ t₃) :
    Step L H₁ s₁ H₄ t₃ ∧ (I (i + 1) m₄ H₄ → K H₄ → FC a L it vs K W I H₁ s₁ t₃ (i + 1) m₄ H₄) := by
  obtain ⟨o₁, ho₁⟩ := Wk.alive _ _ hW'
  have z₂ := T₅.keep it o₁ hitL R.hit ho₁
  have z₃ := T₆.keep it o₁ hitL z₂.2 z₂.1
  have TT := ((R.step.but hit0 k1 g1 o1).trans T₅).trans T₆
  exact ⟨TT, fun hI hK => ⟨hlt, hI, hK, S₆, TT, z₃.2, Wk.frame _ _ _ hW' fun o e => (T₆.keep it o hitL z₂.2 (T₅.keep it o hitL R.hit e).1).1⟩⟩
theorem s_for {target iter : Expr} {body : List Stmt} {pos : Pos} (hs : ∀ x, foldedSetIterable iter env x = pure x) (ht : ∀ it v, letOwnedTupleGo target it v = pure ()) (hh : A.handled = none)
    (h : JE a A L m (eval iter env) H (fun v H₁ => ∃ (vs : List Value) (K : AHeap → Prop) (I : Nat → Loc → AHeap → Prop), Iters H₁ v vs K ∧ I 0 m H₁ ∧
      (∀ i x m₂ H₂, vs[i]? = some x → I i m₂ H₂ → K H₂ → ∀ v', er v' = x → JU a A L m₂ (assign target env v') H₂ (fun m₃ H₃ => JS a A L m₃ (execs body env) H₃ (turnEnd (fun m₄ H₄ => I (i + 1) m₄ H₄ ∧ K H₄) QS))) ∧
      (∀ m₂ H₂, I vs.length m₂ H₂ → QS .next m₂ H₂))) : JS a A L m (exec (.For target iter body [] pos) env) H QS := by
  intro s S
  refine wpAny_For (h.then S fun v s₁ H₁ S₁ T₁ q => ?_) hs
  obtain ⟨vs, K, I, hI, h0, turn, done⟩ := q
  refine iter_of hI S₁ rfl fun it W s₂ Wk hW hit hk hg ho => ?_
  have S₂ := S₁.grown hk hg ho
  refine codeAny_forLoop_any (FS a L it vs K W I H₁ s₁) (fun n t hI' => ?_) vs.length ⟨0, m, H₁, rfl, ⟨Nat.zero_le _, h0, hI.here, S₂.1, S₂.2, S₁.fresh hit, hW⟩⟩
  obtain ⟨i, m₂, H₂, rfl, R⟩ := hI'
  refine wpAny_mono (Wk.next i hh R.st R.hit R.kk R.w R.hi) (fun r t₁ ⟨k1, g1, o1, q1⟩ => ?_) fun _ _ x => x.elim
  have S₄ := R.st.but R.hit (S₁.neL hit) (S₁.base hit) k1
  rcases q1 with ⟨v₁, x, hx, rfl, hv, hW'⟩ | ⟨hi', rfl⟩
  · dsimp only
    rw [ht]
    refine wpAny_pure (wpAny_mono (turn i x m₂ H₂ hx R.inv R.kk v₁ hv t₁ S₄) (fun _ t₂ ⟨m₃, H₃, S₅, T₅, q₅⟩ => ?_) fun _ _ x => x.elim)
    refine wpAny_mono (q₅ t₂ S₅) (fun fl t₃ ⟨m₄, H₄, S₆, T₆, q₆⟩ => ?_) fun _ _ x => x.elim
    have hlt := (List.getElem?_eq_some_iff.mp hx).1
    have F := R.turn Wk (S₁.neL hit) hit k1 g1 o1 hW' hlt T₅ S₆ T₆
    have hn : vs.length - (i + 1) < vs.length - i := Nat.sub_lt_sub_left hlt (Nat.lt_succ_self i)
    cases fl with
    | next => exact ⟨_, hn, i + 1, m₄, H₄, rfl, F.2 q₆.1 q₆.2⟩
    | cont => exact ⟨_, hn, i + 1, m₄, H₄, rfl, F.2 q₆.1 q₆.2⟩
    | brk => exact ⟨m₄, H₄, S₆, T₁.trans F.1, q₆⟩
    | ret v => exact ⟨m₄, H₄, S₆, T₁.trans F.1, q₆⟩
  · subst hi'
    exact wpAny_execs_nil ⟨m₂, H₂, S₄, T₁.trans (R.step.but hit k1 g1 o1), done _ _ R.inv⟩
theorem s_while {c : Expr} {body : List Stmt} {pos : Pos} (I : Nat → Loc → AHeap → Prop) (n : Nat) (h0 : I n m H)
    (turn : ∀ n m₁ H₁, I n m₁ H₁ → JB a A L m₁ (isTrue c env (eval c env)) H₁ (fun b H₂ => if b = true then JS a A L m₁ (execs body env) H₂ (turnEnd (fun m₃ H₃ => ∃ k, k < n ∧ I k m₃ H₃) QS) else QS .next m₁ H₂)) :
    JS a A L m (exec (.While c body [] pos) env) H QS := by
  intro s S
  refine wpAny_While ?_
  refine codeAny_whileLoop (fun n t => ∃ m₁ H₁, I n m₁ H₁ ∧ St a L m₁ H₁ t ∧ Step L H s H₁ t) (fun n t ⟨m₁, H₁, hI, S₁, T₁⟩ => ?_) n ⟨m, H, h0, S, Step.refl ..⟩
  refine wpAny_mono (turn n m₁ H₁ hI t S₁) (fun b t₁ ⟨H₂, S₂, T₂, q⟩ => ?_) fun _ _ x => x.elim
  cases b
  · simp only [Bool.false_eq_true, if_false] at q ⊢
    exact wpAny_execs_nil ⟨m₁, H₂, S₂, T₁.trans T₂, q⟩
  · simp only [if_true] at q ⊢
    refine wpAny_mono (q t₁ S₂) (fun fl t₂ ⟨m₃, H₃, S₃, T₃, q₃⟩ => ?_) fun _ _ x => x.elim
    have TT := (T₁.trans T₂).trans T₃
    cases fl with
    | next => obtain ⟨k, hk, hI'⟩ := q₃; exact ⟨k, hk, m₃, H₃, hI', S₃, TT⟩
    | cont => obtain ⟨k, hk, hI'⟩ := q₃; exact ⟨k, hk, m₃, H₃, hI', S₃, TT⟩
    | brk => exact ⟨m₃, H₃, S₃, TT, q₃⟩
    | ret v => exact ⟨m₃, H₃, S₃, TT, q₃⟩
end
end
-- L6
section
variable {KF : Params → Frag}
section
variable {a : Amb KF} {A : Around} {L : Addr} {m : Loc} {H : AHeap} {env : Env} {Q : Value → AHeap → Prop} {QS : Flow → Loc → AHeap → Prop}

/-! ### methods of lists -/
/-- what the text must say of a method's call: all by rfl -/
structure MethText (o : Expr) (name : Str) (apos pos : Pos) (args : List Expr) (env : Env) : Prop where
  base : attributeBase o name env (eval o env) = eval o env
  few : ((backTo pos (starEach args env)).all (fun x => !x.1) && (backToKw pos (keywordEach [] env)).all (fun x => x.1.isSome) && decide (args.length + ([] : List Keyword).length + (if ([] : List Keyword).isEmpty then 0 else 1) < 30)) = true
  line : (apos.endLine == pos.line) = true
def AppOk (a : Amb KF) (A : Around) (L : Addr) (m : Loc) (e : Expr) (env : Env) (r : Value) (H₁ : AHeap) (Q : Value → AHeap → Prop) : Prop :=
  ∃ l vs₀, r = .ref l ∧ H₁ l = some (.list vs₀) ∧ JE a A L m (eval e env) H₁ (fun v H₂ => ∃ vs, H₂ l = some (.list vs) ∧ vs.length ≤ 100000 ∧ Q .none (H₂.set l (.list (vs ++ [v]))))
theorem e_append {o e : Expr} {apos pos : Pos} (t : MethText o "append" apos pos [e] env) (hb : backTo pos (starEach [e] env) = [(false, eval e env)])
    (h : JE a A L m (eval o env) H (fun r H₁ => AppOk a A L m e env r H₁ Q)) :
    JE a A L m (eval (.Call (.Attribute o "append" apos) [e] [] pos) env) H Q :=
  fun s S => wpAny_Call_method_late t.base t.few t.line hb (h.then S fun r s₁ H₁ S₁ T₁ q => by
    obtain ⟨l, vs₀, hr, hl, q⟩ := q
    rw [er_ref hr]
    obtain ⟨its, n, hl', e₀⟩ := S₁.list hl
    refine ⟨"list", "list.append", F.plainAttrs_list, slot_list_append, type_list_append, hl'.isList.typeIs, fun b hb => ⟨_, by cases hb; exact hl', rfl⟩, ?_⟩
    refine P.append_list (J.then q S₁ fun v s₂ H₂ S₂ T₂ q₂ => ?_)
    obtain ⟨vs, hl2, hz, q₂⟩ := q₂
    obtain ⟨its2, n2, hl2', e2⟩ := S₂.list hl2
    have z := size_of e2
    obtain ⟨S₃, T₃⟩ := S₂.turnedL (s' := { s₂ with heap := s₂.heap.update l (Obj.mapSeq fun xs => xs.push v) }) (vs' := vs ++ [er v]) hl2 hl2' (by simp [e2]) rfl rfl rfl
    exact ⟨its2, n2, by rw [sizeLine_eq]; (first | lia | omega), hl2', _, S₃, (T₁.trans T₂).trans T₃, q₂⟩)
def PopOk (r : Value) (H₁ : AHeap) (Q : Value → AHeap → Prop) : Prop := ∃ l vs v, r = .ref l ∧ H₁ l = some (.list (vs ++ [v])) ∧ vs.length ≤ 100000 ∧ Q v (H₁.set l (.list vs))
theorem e_pop {o : Expr} {apos pos : Pos} (t : MethText o "pop" apos pos [] env)
    (h : JE a A L m (eval o env) H (fun r H₁ => PopOk r H₁ Q)) :
    JE a A L m (eval (.Call (.Attribute o "pop" apos) [] [] pos) env) H Q :=
  fun s S => wpAny_Call_method_late (trees := []) t.base t.few t.line rfl (h.then S fun r s₁ H₁ S₁ T₁ q => by
    obtain ⟨l, vs, v, hr, hl, hz, q⟩ := q
    rw [er_ref hr]
    obtain ⟨its, n, hl', e⟩ := S₁.list hl
    have z := size_of e
    rw [List.length_append, List.length_singleton] at z
    refine ⟨"list", "list.pop", F.plainAttrs_list, F.slot_list_pop, F.type_list_pop, hl'.isList.typeIs, fun b hb => ⟨_, by cases hb; exact hl', rfl⟩, ?_⟩
    obtain ⟨y, hy, hv⟩ := item_of e (i := its.size - 1) (v := v) (by rw [z]; simp)
    refine P.pop_list hl' hy ?_ (by rw [sizeLine_eq]; (first | lia | omega))
    obtain ⟨S₃, T₃⟩ := S₁.turnedL (s' := { s₁ with heap := s₁.heap.update l (Obj.mapSeq fun xs => xs.eraseIdxIfInBounds (its.size - 1)) }) (vs' := vs) hl hl' (by
      have h1 : its.size - 1 < its.size := by (first | lia | omega)
      rw [show its.eraseIdxIfInBounds (its.size - 1) = its.pop by
        rw [Array.eraseIdxIfInBounds, dif_pos h1]
        apply Array.ext'
        rw [Array.toList_eraseIdx, Array.toList_pop, ← List.eraseIdx_length_sub_one]
        simp]
      rw [Array.toList_pop, List.map_dropLast, e]
      simp) rfl rfl rfl
    rw [hv]
    exact ⟨_, S₃, T₁.trans T₃, q⟩)
theorem e_bits {o : Expr} {apos pos : Pos} (t : MethText o "bit_length" apos pos [] env)
    (h : JE a A L m (eval o env) H (fun r H₁ => ∃ i : Int, r = vi i ∧ Q (vi (Builtin.Int.intBits i : Nat)) H₁)) :
    JE a A L m (eval (.Call (.Attribute o "bit_length" apos) [] [] pos) env) H Q :=
  fun s S => wpAny_Call_method_late (trees := []) t.base t.few t.line rfl (h.then S fun r s₁ H₁ S₁ T₁ q => by
    obtain ⟨i, hr, q⟩ := q
    obtain ⟨u, rfl⟩ := er_int hr
    refine ⟨"int", "int.bit_length", F.plainAttrs_int, F.slot_int_bit_length, F.type_int_bit_length, typeIs_int s₁ i u, (fun b hb => by cases hb), ?_⟩
    refine callWith_of (P := (KF a.w.params).In) rfl (fun hp X => ⟨.machine, .inr (.inl rfl), Looks.of_pure rfl⟩) (evalArgs_nil3 ⟨S₁.X, ?_⟩)
    exact call_int_bit_length ⟨H₁, S₁.toks rfl, T₁.trans (Step.toks rfl rfl rfl), q⟩)

/-! ### built-in functions -/
theorem c_len_list {l : Addr} {vs : List Value} (h : H l = some (.list vs)) (hz : vs.length ≤ 16384) (q : Q (vi vs.length) H) : OC a A L m (.builtin "len") [.ref l] H Q := by
  intro vs' hv s S
  obtain ⟨x, rfl⟩ : ∃ x, vs' = [x] := by rcases vs' with _ | ⟨x, _ | ⟨y, r⟩⟩ <;> simp at hv; exact ⟨_, rfl⟩
  simp only [List.map_cons, List.map_nil, List.cons.injEq, and_true] at hv
  rw [er_ref hv]
  obtain ⟨its, n, hl, e⟩ := S.list h
  have z := size_of e
  exact kun_lenL (k := vs.length) hl.isList (by (first | lia | omega)) (by (first | lia | omega)) ⟨H, S.toks rfl, Step.toks rfl rfl rfl, q⟩
theorem c_len_tuple {l : Addr} {vs : List Value} (h : H l = some (.tuple vs)) (hz : vs.length ≤ 16384) (q : Q (vi vs.length) H) : OC a A L m (.builtin "len") [.ref l] H Q := by
  intro vs' hv s S
  obtain ⟨x, rfl⟩ : ∃ x, vs' = [x] := by rcases vs' with _ | ⟨x, _ | ⟨y, r⟩⟩ <;> simp at hv; exact ⟨_, rfl⟩
  simp only [List.map_cons, List.map_nil, List.cons.injEq, and_true] at hv
  rw [er_ref hv]
  obtain ⟨its, n, hl, e⟩ := S.tuple h
  have z := size_of e
  exact kun_lenT (k := vs.length) (items := its) ⟨_, hl, rfl, _, rfl⟩ (by (first | lia | omega)) (by (first | lia | omega)) ⟨H, S.toks rfl, Step.toks rfl rfl rfl, q⟩
theorem c_abs {i : Int} (q : Q (vi i.natAbs) H) : OC a A L m (.builtin "abs") [vi i] H Q := by
  intro vs' hv s S
  obtain ⟨x, rfl⟩ : ∃ x, vs' = [x] := by rcases vs' with _ | ⟨x, _ | ⟨y, r⟩⟩ <;> simp at hv; exact ⟨_, rfl⟩
  simp only [List.map_cons, List.map_nil, List.cons.injEq, and_true] at hv
  obtain ⟨t, rfl⟩ := er_int hv
  refine call_abs_int fun u tk => ⟨H, S.toks rfl, Step.toks rfl rfl rfl, ?_⟩
  have : (if i < 0 then -i else i) = (i.natAbs : Int) := by split <;> (first | lia | omega)
  rw [this]; exact q
theorem c_range1 {n : Int} (q : ∀ D, H D = none → Q (.ref D) (H.set D (.range 0 n))) : OC a A L m (.type "range") [vi n] H Q := by
  intro vs' hv s S
  obtain ⟨x, rfl⟩ : ∃ x, vs' = [x] := by rcases vs' with _ | ⟨x, _ | ⟨y, r⟩⟩ <;> simp at hv; exact ⟨_, rfl⟩
  simp only [List.map_cons, List.map_nil, List.cons.injEq, and_true] at hv
  obtain ⟨t, rfl⟩ := er_int hv
  obtain ⟨mv, F, em⟩ := S.fr
  refine range1_rows F (newsOf_news a.h₀ s.heap L) fun h' tk t₁ u₁ v₁ hr F' N' hk => ?_
  obtain ⟨S', T'⟩ := S.made (s' := { s with heap := h', toks := tk }) (c := .range 0 n) (get?_size _) hk hr ⟨_, _, _, rfl⟩ rfl rfl
  exact ⟨_, S', T', q _ (S.fresh (get?_size _))⟩
theorem c_range2 {lo n : Int} (q : ∀ D, H D = none → Q (.ref D) (H.set D (.range lo n))) : OC a A L m (.type "range") [vi lo, vi n] H Q := by
  intro vs' hv s S
  obtain ⟨x, y, rfl⟩ : ∃ x y, vs' = [x, y] := by rcases vs' with _ | ⟨x, _ | ⟨y, _ | ⟨z, r⟩⟩⟩ <;> simp at hv; exact ⟨_, _, rfl⟩
  simp only [List.map_cons, List.map_nil, List.cons.injEq, and_true] at hv
  obtain ⟨t, rfl⟩ := er_int hv.1
  obtain ⟨u, rfl⟩ := er_int hv.2
  obtain ⟨mv, F, em⟩ := S.fr
  refine range2_rows F (newsOf_news a.h₀ s.heap L) fun h' tk t₁ u₁ v₁ hr F' N' hk => ?_
  obtain ⟨S', T'⟩ := S.made (s' := { s with heap := h', toks := tk }) (c := .range lo n) (get?_size _) hk hr ⟨_, _, _, rfl⟩ rfl rfl
  exact ⟨_, S', T', q _ (S.fresh (get?_size _))⟩
theorem c_tuple {l : Addr} {vs : List Value} (h : H l = some (.list vs)) (hz : vs.length ≤ 16384) (q : ∀ D, H D = none → Q (.ref D) (H.set D (.tuple vs))) : OC a A L m (.type "tuple") [.ref l] H Q := by
  intro vs' hv s S
  obtain ⟨x, rfl⟩ : ∃ x, vs' = [x] := by rcases vs' with _ | ⟨x, _ | ⟨y, r⟩⟩ <;> simp at hv; exact ⟨_, rfl⟩
  simp only [List.map_cons, List.map_nil, List.cons.injEq, and_true] at hv
  rw [er_ref hv]
  obtain ⟨its, n, hl, e⟩ := S.list h
  have z := size_of e
  refine call_tuple_list hl.isList (fun h' hk => ?_) (by rw [sizeLine_eq]; (first | lia | omega))
  obtain ⟨S₁, T₁⟩ := S.grown (s' := { s with heap := h' }) hk rfl rfl
  obtain ⟨S₂, T₂⟩ := S₁.pushed (o := { cls := .type "tuple", data := .seq its }) (c := .tuple vs) (s' := { s with heap := h'.push { cls := .type "tuple", data := .seq its } }) rfl ⟨_, _, rfl, e⟩ rfl rfl rfl
  exact ⟨_, S₂, T₁.trans T₂, q _ (S₁.fresh (get?_size _))⟩
theorem c_list {l : Addr} {vs : List Value} (h : H l = some (.list vs)) (hz : vs.length ≤ 16384) (q : ∀ D, H D = none → Q (.ref D) (H.set D (.list vs))) : OC a A L m (.type "list") [.ref l] H Q := by
  intro vs' hv s S
  obtain ⟨x, rfl⟩ : ∃ x, vs' = [x] := by rcases vs' with _ | ⟨x, _ | ⟨y, r⟩⟩ <;> simp at hv; exact ⟨_, rfl⟩
  simp only [List.map_cons, List.map_nil, List.cons.injEq, and_true] at hv
  rw [er_ref hv]
  obtain ⟨its, n, hl, e⟩ := S.list h
  have z := size_of e
  refine call_list_seq (hsz := by rw [sizeLine_eq]; (first | lia | omega)) l (.inl rfl) hl rfl rfl fun h' c' hk hD => ?_
  obtain ⟨S₂, T₂⟩ := S.made (s' := { s with heap := h' }) (c := .list vs) (get?_size _) hk hD ⟨_, _, rfl, e⟩ rfl rfl
  exact ⟨_, S₂, T₂, q _ (S.fresh (get?_size _))⟩
theorem ints_of : ∀ {us : List Value} {ns : List Int}, us.map er = ns.map vi → IntsAre us ns
  | [], [], _ => .nil
  | [], _ :: _, h => by cases h
  | _ :: _, [], h => by cases h
  | u :: us, n :: ns, h => by
    rw [List.map_cons, List.map_cons, List.cons.injEq] at h
    obtain ⟨t, rfl⟩ := er_int h.1
    exact .cons n t (ints_of h.2)
theorem c_sum {l : Addr} {ns : List Int} (hh : A.handled = none) (h : H l = some (.list (ns.map vi))) (q : Q (vi ns.sum) H) : OC a A L m (.builtin "sum") [.ref l] H Q := by
  intro vs' hv s S
  obtain ⟨x, rfl⟩ : ∃ x, vs' = [x] := by rcases vs' with _ | ⟨x, _ | ⟨y, r⟩⟩ <;> simp at hv; exact ⟨_, rfl⟩
  simp only [List.map_cons, List.map_nil, List.cons.injEq, and_true] at hv
  rw [er_ref hv]
  obtain ⟨its, n, hl, e⟩ := S.list h
  have hi := ints_of e
  obtain ⟨xs, hxs⟩ := hi.allInts.items
  have hnum : preSum (numAt xs) xs.size = ns.sum := by
    have h1 := hi.numsOf
    have h2 : its = intItems xs := by simpa using hxs
    rw [preSum_eq, List.take_of_length_le (by simp), ← nums_intItems, ← h1, h2]
  refine sum_intListG hh (xs := xs) (by rw [← hxs]; simpa using hl.isList) fun h' tk t' hk => ?_
  obtain ⟨S', T'⟩ := S.grown (s' := { s with heap := h', toks := tk }) hk rfl rfl
  refine ⟨H, S', T', ?_⟩
  rw [hnum]; exact q

/-! ### membership -/
theorem o_in {l : Addr} {ns : List Int} {k : Int} (h : H l = some (.list (ns.map vi))) (q : Q (vb (ns.any (· == k))) H) : O2 a A L m (compareOp .In) (vi k) (.ref l) H Q := by
  intro x' y' hx hy
  obtain ⟨t, rfl⟩ := er_int hx
  rw [er_ref hy]
  intro s S
  obtain ⟨its, n, hl, e⟩ := S.list h
  exact in_list_ints (vs := its.toList) (ns := ns) (by simpa using hl.isList) (ints_of e) ⟨H, S, Step.refl .., q⟩
theorem o_notin {l : Addr} {ns : List Int} {k : Int} (h : H l = some (.list (ns.map vi))) (q : Q (vb (!(ns.any (· == k)))) H) : O2 a A L m (compareOp .NotIn) (vi k) (.ref l) H Q := by
  intro x' y' hx hy
  obtain ⟨t, rfl⟩ := er_int hx
  rw [er_ref hy]
  intro s S
  obtain ⟨its, n, hl, e⟩ := S.list h
  exact notin_list_ints (vs := its.toList) (ns := ns) (by simpa using hl.isList) (ints_of e) ⟨H, S, Step.refl .., q⟩
end
end
-- L7
section
variable {KF : Params → Frag}
section
variable {a : Amb KF} {A : Around} {L : Addr} {m : Loc} {H : AHeap} {env : Env} {Q : Value → AHeap → Prop} {QS : Flow → Loc → AHeap → Prop}

/-! ### targets -/
theorem u_name {x : Str} {pos : Pos} {v : Value} {QU : Loc → AHeap → Prop} (h : JU a A L m (storeName env x v) H QU) : JU a A L m (assign (.Name x pos) env v) H QU :=
  fun s S => wpAny_assign_Name (h s S)
theorem assign_sub_eq (o i : Expr) (pos : Pos) (v : Value) : assign (.Subscript o i pos) env v = (do
    let ov ← holding [v] (eval o env)
    let iv ← holding [v, ov] (eval i env)
    standAt pos
    holding [v, ov, iv] (setItem ov iv v)
    release (match i with | .Slice _ _ none _ => [iv, v, ov] | _ => [v, ov, iv]) []) := by rfl
theorem wpAny_release' {M : Model} {E : Value → Shared → Prop} {s : Shared} {vs ks : List Value} {P : Unit → Shared → Prop} (h : P () s) : wpAny M A (release vs ks) P E s := fun Γ p hΓ => by
  rw [Sem.wp_release]; exact h
theorem u_sub {o i : Expr} {pos : Pos} {v : Value} {QU : Loc → AHeap → Prop}
    (h : JE a A L m (eval o env) H (fun x H₁ => JE a A L m (eval i env) H₁ (fun y H₂ => ∀ x' y', er x' = x → er y' = y → JU a A L m (setItem x' y' v) H₂ QU))) : JU a A L m (assign (.Subscript o i pos) env v) H QU := by
  intro s S
  rw [assign_sub_eq]
  refine wpAny_bind (wpAny_holding (h.then S fun x _ _ S₁ T₁ q₁ => wpAny_bind (wpAny_holding (J.then q₁ S₁ fun y _ _ S₂ T₂ q₂ => ?_))))
  refine wpAny_bind (wpAny_standAt (wpAny_bind (wpAny_holding (wpAny_mono (JU.carry (q₂ x y rfl rfl) S₂ (T₁.trans T₂)) (fun _ _ q => wpAny_release' q) fun _ _ x => x))))
theorem s_assign_tuple2 {e₁ e₂ value : Expr} {k : Nat} {p pos : Pos} (hh : A.handled = none) (hs : swapsWithSole [.Tuple [e₁, e₂] k p] value pos.line env = pure false) (hw : swappedStores [.Tuple [e₁, e₂] k p] value env = pure none)
    (ha : assignEach [e₁, e₂] env = [(false, assign e₁ env), (false, assign e₂ env)])
    (h : JE a A L m (eval value env) H (fun v H₁ => ∃ t x₁ x₂, v = .ref t ∧ H₁ t = some (.tuple [x₁, x₂]) ∧ ∀ v₁ v₂, er v₁ = x₁ → er v₂ = x₂ → JU a A L m (assign e₁ env v₁) H₁ (fun m₁ H₂ => JU a A L m₁ (assign e₂ env v₂) H₂ (fun m₂ H₃ => QS .next m₂ H₃)))) :
    JS a A L m (exec (.Assign [.Tuple [e₁, e₂] k p] value pos) env) H QS := by
  intro s S
  refine wpAny_Assign_stores (h.then S fun v s₁ H₁ S₁ T₁ q => ?_) hs hw
  obtain ⟨t, x₁, x₂, hv, ht, q⟩ := q
  rw [er_ref hv]
  obtain ⟨its, n, hl, e⟩ := S₁.tuple ht
  obtain ⟨v₁, v₂, rfl, h1, h2⟩ : ∃ v₁ v₂, its = #[v₁, v₂] ∧ er v₁ = x₁ ∧ er v₂ = x₂ := by
    have : ∃ v₁ v₂, its.toList = [v₁, v₂] := by
      rcases hi : its.toList with _ | ⟨x, _ | ⟨y, _ | ⟨z, r⟩⟩⟩ <;> rw [hi] at e <;> simp at e
      exact ⟨_, _, rfl⟩
    obtain ⟨v₁, v₂, hi⟩ := this
    rw [hi] at e
    simp at e
    exact ⟨v₁, v₂, by rw [← Array.toArray_toList (xs := its), hi], e⟩
  show wpAny _ _ (assign (.Tuple [e₁, e₂] k p) env (.ref t)) _ _ _
  refine wpAny_assign_Tuple hh (items := #[v₁, v₂]) ⟨_, hl, rfl, _, rfl⟩ (by rw [ha]; rfl) (by rw [ha]; rfl) (fun h' hk => ?_)
  rw [ha]
  obtain ⟨S₂, T₂⟩ := S₁.grown (s' := { s₁ with heap := h' }) (fun b o e => hk b o (fun z => by rw [z, get?_size] at e; cases e) e) rfl rfl
  refine assignInOrder_cons (wpAny_mono (q v₁ v₂ h1 h2 _ S₂) (fun _ s₃ ⟨m₃, H₃, S₃, T₃, q₃⟩ => ?_) fun _ _ x => x)
  refine assignInOrder_cons (wpAny_mono (q₃ _ S₃) (fun _ s₄ ⟨m₄, H₄, S₄, T₄, q₄⟩ => ?_) fun _ _ x => x)
  exact assignInOrder_nil ⟨m₄, H₄, S₄, ((T₁.trans T₂).trans T₃).trans T₄, q₄⟩

/-! ### a new object -/
theorem c_new {C fI : Addr} {vs : List Value} {d : Nat} (hm : makesIn (KF a.w.params) C = true) (hi : findIn (KF a.w.params) (.ref C) "__init__" = some (some (.ref fI))) (hf : typeIn (KF a.w.params) (.ref fI) = some (.type "function")) (hR : Rm A (d + 2))
    (h : ∀ x dx A', H x = none → H dx = none → x ≠ dx → Rm A' d → CA a A' L m (.ref fI) (.ref x :: vs) ((H.set dx (.attrs [])).set x (.inst C dx)) (fun v H' => v = .none ∧ Q (.ref x) H')) : CA a A L m (.ref C) vs H Q := by
  intro vs' hv s S
  obtain ⟨mv, F, em⟩ := S.fr
  have hR' : Rm (A.under (.builtin "type.__call__" ⟨.ref C :: vs', []⟩)) d := by
    have h1 := hR.depth
    have h2 := hR.units
    refine ⟨hR.handled, ?_, ?_⟩
    · show A.depth + _ + d ≤ 900
      have : (Code.builtin "type.__call__" ⟨.ref C :: vs', []⟩).weight ≤ 2 := Nat.le_of_ble_eq_true rfl
      (first | lia | omega)
    · show A.units + _ + 20 * d ≤ 9000
      have : (Code.builtin "type.__call__" ⟨.ref C :: vs', []⟩).cUnits ≤ 20 := Nat.le_of_ble_eq_true rfl
      (first | lia | omega)
  have hsz := get?_size s.heap
  refine make_K F (newsOf_news a.h₀ s.heap L) S.X hm hi hf (fun x dx h' F' N' hlt hxd => ?_)
  have hdx : s.heap.get? dx = none := by
    cases z : s.heap.get? dx with
    | none => rfl
    | some o =>
      exfalso
      have n1 := N' (dx, emptyDict) (.tail _ (.head _))
      by_cases zL : dx = L
      · exact n1.2.1 zL
      · exact absurd (hlt _ (newsOf_mem zL n1.2.2 z)) (Nat.lt_irrefl _)
  have hx : s.heap.get? x = none := by
    cases z : s.heap.get? x with
    | none => rfl
    | some o =>
      exfalso
      have n1 := N' (x, instObj C dx) (.head _)
      by_cases zL : x = L
      · exact n1.2.1 zL
      · exact absurd (Nat.lt_trans (hlt _ (newsOf_mem zL n1.2.2 z)) hxd) (Nat.lt_irrefl _)
  have hk : ∀ b o, b ≠ L → s.heap.get? b = some o → h'.get? b = some o := S.fromFr F F' fun p hp => (N' p (.tail _ (.tail _ hp))).1
  obtain ⟨S₁, T₁⟩ := S.madeL (s' := { s with heap := h' }) em F' hk (c := .attrs []) hdx (N' _ (.tail _ (.head _))).1 ⟨[], 0, rfl, Nat.zero_le _, .nil⟩ rfl rfl
  have hne : x ≠ dx := Nat.ne_of_gt hxd
  have S₂ : St a L m ((H.set dx (.attrs [])).set x (.inst C dx)) { s with heap := h' } := ⟨S₁.fr, fun b c hb => by
    by_cases z : b = x
    · subst z; rw [AHeap.set_same] at hb; cases hb
      have n1 := N' (b, instObj C dx) (.head _)
      exact ⟨n1.2.1, n1.2.2, _, n1.1, rfl⟩
    · rw [AHeap.set_ne _ _ z] at hb; exact S₁.cells b c hb⟩
  have T₂ : Step L H s ((H.set dx (.attrs [])).set x (.inst C dx)) { s with heap := h' } := ⟨fun b o hL hn e => ⟨hk b o hL e, by
    rw [AHeap.set_ne _ _ (fun z => by rw [z, hx] at e; cases e), AHeap.set_ne _ _ (fun z => by rw [z, hdx] at e; cases e)]; exact hn⟩, rfl, rfl⟩
  refine codeAny_mono (h x dx _ (S.fresh hx) (S.fresh hdx) hne hR' (.ref x :: vs') (by rw [List.map_cons, hv]; rfl) _ S₂) fun r s' q => ?_
  rcases r with e | (_ | _ | _ | v) <;> first | exact q | skip
  obtain ⟨H', S', T', hv', q'⟩ := q
  exact ⟨er_none hv', H', S', T₂.trans T', q'⟩

/-! ### comprehensions -/
/-- the tests of a comprehension with one at most -/
def JT (a : Amb KF) (A : Around) (L : Addr) (m : Loc) (env : Env) : List Expr → AHeap → (Bool → AHeap → Prop) → Prop
  | [], H, Q => Q true H
  | [c], H, Q => JB a A L m (isTrue c env (eval c env)) H Q
  | _, _, _ => False
theorem JT.run {ifs : List Expr} {QB : Bool → AHeap → Prop} {s : Shared} (h : JT a A L m env ifs H QB) (S : St a L m H s) :
    wpAny (model a.prog a.w) A (forIn ifs true fun c r => if r = true then do let ok ← isTrue c env (eval c env); pure (ForInStep.yield ok) else pure (ForInStep.yield r)) (fun b s' => ∃ H', St a L m H' s' ∧ Step L H s H' s' ∧ QB b H') (fun _ _ => False) s := by
  match ifs, h with
  | [], h => exact wpAny_tests_nil ⟨_, S, Step.refl .., h⟩
  | [c], h => exact wpAny_tests_one (h s S)
/-- a turn of a comprehension -/
def CTurn (a : Amb KF) (A : Around) (C : Addr) (cenv : Env) (target elt : Expr) (ifs : List Expr) (vs : List Value) (K : AHeap → Prop) (I : Nat → List Value → AHeap → Prop) : Prop :=
  ∀ i x ys mC H, vs[i]? = some x → I i ys H → K H → ∀ v', er v' = x → JU a A C mC (assign target cenv v') H (fun m₃ H₃ => JT a A C m₃ cenv ifs H₃ (fun ok H₄ =>
    if ok = true then JE a A C m₃ (eval elt cenv) H₄ (fun y H₅ => I (i + 1) (ys ++ [y]) H₅ ∧ K H₅) else I (i + 1) ys H₄ ∧ K H₄))
/-- a comprehension's loop: what stands after i items -/
structure CS (a : Amb KF) (L C D it : Addr) (m : Loc) (vs : List Value) (K : AHeap → Prop) (W : Nat → Heap → Prop) (I : Nat → List Value → AHeap → Prop) (H : AHeap) (s t : Shared) (i : Nat) (ys : List Value) (H₂ : AHeap) (its : Array Value) (mv₂ : Str → Option Value) : Prop where
  hi : i ≤ vs.length
  hy : ys.length ≤ i
  inv : I i ys H₂
  kk : K H₂
  st : St a L m H₂ t
  pl : t.heap.PlainList D its
  er' : its.toList.map er = ys
  ns : t.heap.Ns C mv₂
  hD : H₂ D = none
  hC : H₂ C = none
  hit : H₂ it = none
  w : W i t.heap
  keep : ∀ b o, b ≠ L → b ≠ C → b ≠ D → b ≠ it → H b = none → s.heap.get? b = some o → t.heap.get? b = some o ∧ H₂ b = none
  gens : t.gens = s.gens
  os : t.os = s.os
def CI (a : Amb KF) (L C D it : Addr) (m : Loc) (vs : List Value) (K : AHeap → Prop) (W : Nat → Heap → Prop) (I : Nat → List Value → AHeap → Prop) (H : AHeap) (s : Shared) (n : Nat) (t : Shared) : Prop :=
  ∃ i ys H₂ its mv₂, n = vs.length - i ∧ CS a L C D it m vs K W I H s t i ys H₂ its mv₂
/-- what a turn's run within the comprehension's own frame leaves -/
structure CM (a : Amb KF) (L C D it : Addr) (m : Loc) (W : Nat → Heap → Prop) (H : AHeap) (s t : Shared) (i : Nat) (H₂ : AHeap) (its : Array Value) : Prop where
  st : St a L m H₂ t
  pl : t.heap.PlainList D its
  ns : ∃ mv, t.heap.Ns C mv
  hD : H₂ D = none
  hC : H₂ C = none
  hit : H₂ it = none
  w : W (i + 1) t.heap
  keep : ∀ b o, b ≠ L → b ≠ C → b ≠ D → b ≠ it → H b = none → s.heap.get? b = some o → t.heap.get? b = some o ∧ H₂ b = none
  gens : t.gens = s.gens
  os : t.os = s.os
theorem CM.of {C D it : Addr} {vs : List Value} {K : AHeap → Prop} {W : Nat → Heap → Prop} {I : Nat → List Value → AHeap → Prop} {s t t₁ t₄ : Shared} {i : Nat} {ys : List Value} {H₂ H₅ : AHeap} {its : Array Value} {mv₂ : Str → Option Value} {m₅ : Loc} (Wk : Iter a it vs K W) (hCL : C ≠ L) (hDL : D ≠ L) (hiL : it ≠ L) (hCD : C ≠ D) (hCi : C ≠ it) (hDi : D ≠ it) (hi0 : a.h₀.get? it = none)
    (S : CS a L C D it m vs K W I H s t i ys H₂ its mv₂) (k1 : ∀ b o, b ≠ it → t.heap.get? b = some o → t₁.heap.get? b = some o) (g1 : t₁.gens = t.gens) (o1 : t₁.os = t.os) (hW' : W (i + 1) t₁.heap) (S₆ : St a C m₅ H₅ t₄) (T₆ : Step C H₂ t₁ H₅ t₄) : CM a L C D it m W H s t₄ i H₅ its := by
  obtain ⟨nD, hpD⟩ := S.pl
  obtain ⟨oi, hoi⟩ := Wk.alive _ _ hW'
  have z1 := T₆.keep D _ (Ne.symm hCD) S.hD (k1 _ _ hDi hpD)
  have z2 := T₆.keep it oi (Ne.symm hCi) S.hit hoi
  refine ⟨(S.st.but S.hit hiL hi0 k1).back S₆ T₆ (Ne.symm hCL), ⟨nD, z1.1⟩, ?_, z1.2, ?_, z2.2, Wk.frame _ _ _ hW' (fun o e => (T₆.keep it o (Ne.symm hCi) S.hit e).1), fun b o b1 b2 b3 b4 hn e => ?_, (T₆.gens.trans g1).trans S.gens, (T₆.os.trans o1).trans S.os⟩
  · obtain ⟨mv₅, F₅, _⟩ := S₆.fr; exact ⟨mv₅, F₅.ns⟩
  · cases z : H₅ C with
    | none => rfl
    | some c => exact absurd rfl (S₆.cells _ _ z).1
  · exact T₆.keep b o b2 (S.keep b o b1 b2 b3 b4 hn e).2 (k1 b o b4 (S.keep b o b1 b2 b3 b4 hn e).1)
/-- the frame's own view, behind the iterator's step -/
theorem CS.own {C D it : Addr} {vs : List Value} {K : AHeap → Prop} {W : Nat → Heap → Prop} {I : Nat → List Value → AHeap → Prop} {s t t₁ : Shared} {i : Nat} {ys : List Value} {H₂ : AHeap} {its : Array Value} {mv₂ : Str → Option Value} (hiL : it ≠ L) (hCi : C ≠ it) (hi0 : a.h₀.get? it = none) (hCa : a.h₀.objs.size ≤ C)
    (S : CS a L C D it m vs K W I H s t i ys H₂ its mv₂) (k1 : ∀ b o, b ≠ it → t.heap.get? b = some o → t₁.heap.get? b = some o) : St a C (fun x => (mv₂ x).map er) H₂ t₁ := by
  have S₃ := S.st.but S.hit hiL hi0 k1
  obtain ⟨oC, es, ep, hoC, hrC⟩ := S.ns
  refine ⟨⟨mv₂, ⟨⟨oC, es, ep, k1 _ _ hCi hoC, hrC⟩, fun b o e => S₃.keep b o e, hCa⟩, fun _ => rfl⟩, fun b c hb => ?_⟩
  obtain ⟨h1, h2, r⟩ := S₃.cells b c hb
  exact ⟨(fun z => by rw [z, S.hC] at hb; cases hb), h2, r⟩
/-- an item is appended -/
theorem CM.next {C D it : Addr} {vs : List Value} {K : AHeap → Prop} {W : Nat → Heap → Prop} {I : Nat → List Value → AHeap → Prop} {s t₄ : Shared} {i : Nat} {ys : List Value} {H₅ : AHeap} {its : Array Value} {y : Value} (Wk : Iter a it vs K W) (hDL : D ≠ L) (hCD : C ≠ D) (hDi : D ≠ it) (hD0 : a.h₀.get? D = none)
    (M : CM a L C D it m W H s t₄ i H₅ its) (he : its.toList.map er = ys) (hlt : i < vs.length) (hy : ys.length ≤ i) (hI : I (i + 1) (ys ++ [er y]) H₅) (hK : K H₅) {h' : Heap} (hp : h'.PlainList D (its.push y)) (hs : Heap.SameBut D t₄.heap h') : CI a L C D it m vs K W I H s (vs.length - (i + 1)) { t₄ with heap := h' } := by
  have hk' : ∀ b o, b ≠ D → t₄.heap.get? b = some o → h'.get? b = some o := fun b o hb e => (hs.2 b hb).trans e
  obtain ⟨mv₅, oC5, es5, ep5, hoC5, hrC5⟩ := M.ns
  refine ⟨i + 1, ys ++ [er y], H₅, its.push y, mv₅, rfl, ⟨hlt, by rw [List.length_append]; exact Nat.succ_le_succ hy, hI, hK, M.st.but (s' := { t₄ with heap := h' }) M.hD hDL hD0 hk', hp, by simp [he], ⟨oC5, es5, ep5, hk' _ _ hCD hoC5, hrC5⟩, M.hD, M.hC, M.hit, Wk.frame _ _ _ M.w (fun o e => hk' _ _ (Ne.symm hDi) e), fun b o b1 b2 b3 b4 hn e => ?_, M.gens, M.os⟩⟩
  exact ⟨hk' _ _ b3 (M.keep b o b1 b2 b3 b4 hn e).1, (M.keep b o b1 b2 b3 b4 hn e).2⟩
theorem comp_core {elt target iter : Expr} {ifs : List Expr} {scope : Scope} {pos : Pos} {cenv : Env} {C D it : Addr} {vs : List Value} {K : AHeap → Prop} {W : Nat → Heap → Prop} {I : Nat → List Value → AHeap → Prop} {s : Shared}
    (hh : A.handled = none) (ht : ∀ it v, letOwnedTupleGo target it v = pure ()) (Wk : Iter a it vs K W) (hW : W 0 s.heap) (S : St a L m H s) (hCL : C ≠ L) (hDL : D ≠ L) (hiL : it ≠ L) (hCD : C ≠ D) (hCi : C ≠ it) (hDi : D ≠ it)
    (hC : H C = none) (hD : H D = none) (hi : H it = none) (hC0 : a.h₀.get? C = none) (hD0 : a.h₀.get? D = none) (hi0 : a.h₀.get? it = none) (hCa : a.h₀.objs.size ≤ C)
    {mv : Str → Option Value} (hns : s.heap.Ns C mv) (hacc : s.heap.PlainList D #[]) (hz : vs.length ≤ 100000)
    (h0 : I 0 [] H) (hK : K H) (turn : CTurn a A C cenv target elt ifs vs K I) :
    codeAny (model a.prog a.w) A (.compLoop (.ListComp elt [⟨target, iter, ifs, 0⟩] scope pos) 0 (.ref it) (.ref D) cenv)
      (fun r s' => ∃ ys H' its mv', r = .ok .next ∧ I vs.length ys H' ∧ St a L m H' s' ∧ s'.heap.PlainList D its ∧ its.toList.map er = ys ∧ s'.heap.Ns C mv' ∧ H' D = none ∧ H' C = none ∧
        (∀ b o, b ≠ L → b ≠ C → b ≠ D → b ≠ it → H b = none → s.heap.get? b = some o → s'.heap.get? b = some o ∧ H' b = none) ∧ s'.gens = s.gens ∧ s'.os = s.os) s := by
  refine codeAny_compLoop_tests (CI a L C D it m vs K W I H s) (fun n t hI' => ?_) vs.length
    ⟨0, [], H, #[], mv, rfl, ⟨Nat.zero_le _, Nat.le_refl _, h0, hK, S, hacc, rfl, hns, hD, hC, hi, hW, (fun b o _ _ _ _ hn e => ⟨e, hn⟩), rfl, rfl⟩⟩ (ht (.ref it))
  obtain ⟨i, ys, H₂, its, mv₂, rfl, R⟩ := hI'
  refine wpAny_mono (Wk.next i hh R.st R.hit R.kk R.w R.hi) (fun r t₁ ⟨k1, g1, o1, q1⟩ => ?_) fun _ _ x => x.elim
  rcases q1 with ⟨v₁, x, hx, rfl, hv, hW'⟩ | ⟨hi', rfl⟩
  · dsimp only
    have hlt := (List.getElem?_eq_some_iff.mp hx).1
    refine wpAny_mono (turn i x ys _ H₂ hx R.inv R.kk v₁ hv t₁ (R.own hiL hCi hi0 hCa k1)) (fun _ t₂ ⟨m₃, H₃, S₄, T₄, q₄⟩ => ?_) fun _ _ x => x.elim
    refine wpAny_mono (JT.run q₄ S₄) (fun ok t₃ ⟨H₄, S₅, T₅, q₅⟩ => ?_) fun _ _ x => x.elim
    cases ok with
    | false =>
      simp only [Bool.false_eq_true, if_false] at q₅ ⊢
      have M := CM.of Wk hCL hDL hiL hCD hCi hDi hi0 R k1 g1 o1 hW' S₅ (T₄.trans T₅)
      obtain ⟨mv₅, f7⟩ := M.ns
      exact ⟨vs.length - (i + 1), by (omega), i + 1, ys, H₄, its, mv₅, rfl, ⟨hlt, Nat.le_succ_of_le R.hy, q₅.1, q₅.2, M.st, M.pl, R.er', f7, M.hD, M.hC, M.hit, M.w, M.keep, M.gens, M.os⟩⟩
    | true =>
      simp only [if_true] at q₅ ⊢
      refine wpAny_mono (q₅ t₃ S₅) (fun y t₄ ⟨H₅, S₆, T₆, q₆⟩ => ?_) fun _ _ x => x.elim
      have M := CM.of Wk hCL hDL hiL hCD hCi hDi hi0 R k1 g1 o1 hW' S₆ ((T₄.trans T₅).trans T₆)
      refine wpAny_list_append_plain M.pl (fun h' hp' hs' => ⟨_, by (omega), M.next Wk hDL hCD hDi hD0 R.er' hlt R.hy q₆.1 q₆.2 hp' hs'⟩) ?_
      have hsz : its.size = ys.length := size_of R.er'
      have := R.hy
      rw [sizeLine_eq]; (omega)
  · subst hi'
    obtain ⟨nD, hpD⟩ := R.pl
    obtain ⟨oC, es, ep, hoC, hrC⟩ := R.ns
    exact ⟨ys, H₂, its, mv₂, rfl, R.inv, R.st.but R.hit hiL hi0 k1, ⟨nD, k1 _ _ hDi hpD⟩, R.er', ⟨oC, es, ep, k1 _ _ hCi hoC, hrC⟩, R.hD, R.hC, fun b o b1 b2 b3 b4 hn e => ⟨k1 _ _ b4 (R.keep b o b1 b2 b3 b4 hn e).1, (R.keep b o b1 b2 b3 b4 hn e).2⟩, g1.trans R.gens, o1.trans R.os⟩
theorem St.adopt {s : Shared} (S : St a L m H s) {D : Addr} {o : Obj} {c : Cell} (hL : D ≠ L) (h0 : a.h₀.get? D = none) (ho : s.heap.get? D = some o) (hc : CellAt c o) : St a L m (H.set D c) s :=
  ⟨S.fr, fun b c' hb => by
    by_cases z : b = D
    · subst z; rw [AHeap.set_same] at hb; cases hb; exact ⟨hL, h0, o, ho, hc⟩
    · rw [AHeap.set_ne _ _ z] at hb; exact S.cells b c' hb⟩
theorem firstAsync0 (t i : Expr) (fs : List Expr) : firstAsync [⟨t, i, fs, 0⟩] = false := rfl
/-- how a comprehension's frame is laid: C the names, further cells named cs -/
def NewEnvOk (a : Amb KF) (A : Around) (scope : Scope) (cl : List (Str × Addr)) (env : Env) (cells : Addr → List (Str × Addr)) : Prop :=
  ∀ (s : Shared) (P : Env → Shared → Prop), (∀ h', h'.Ns s.heap.objs.size (fun _ => none) → (∀ b o, s.heap.get? b = some o → h'.get? b = some o) → (∀ n c, (n, c) ∈ cells s.heap.objs.size → h'.IsCell c none ∧ s.heap.get? c = none ∧ c ≠ s.heap.objs.size) →
      P (newEnv scope s.heap.objs.size env.globals (cells s.heap.objs.size ++ cl) env.qual none .none (some env) builtinsNs) { s with heap := h' }) →
    wpAny (model a.prog a.w) A (newFunctionEnv scope env.globals cl [] env.qual none .none (some env)) P (fun _ _ => False) s
theorem newEnvOk0 {scope : Scope} {cl : List (Str × Addr)} (hk : scope.kind = .function) (hc : ∀ y ∈ scope.names, y.2 ≠ .cell) : NewEnvOk a A scope cl env (fun _ => []) := by
  intro s P h
  refine wpAny_newFunctionEnv hc (fun _ h => by cases h) (fun h' hns hsb => ?_) hk
  have hk' : ∀ b o, s.heap.get? b = some o → h'.get? b = some o := fun b o e => (hsb.2 b (fun z => by rw [z, get?_size] at e; cases e)).trans (Heap.get?_push_of_some _ e)
  exact h h' hns hk' (fun _ _ h => by cases h)
def compEnvX (scope : Scope) (cs : List (Str × Addr)) (C : Addr) (env : Env) : Env :=
  { scope := relabel scope env, locals := C, globals := env.globals, cells := cs, qual := env.qual, func := none, code := env.code, frame := env.frame, builtins := env.builtins }
/-- cells laid under the names' frame, as far as the heap is concerned -/
def AHeap.cellsIn (H : AHeap) : List (Str × Addr) → AHeap
  | [] => H
  | (_, c) :: r => (AHeap.cellsIn H r).set c (.cell none)
theorem cells_none {H : AHeap} : ∀ {cs : List (Str × Addr)} {b : Addr}, (∀ n c, (n, c) ∈ cs → b ≠ c) → H.cellsIn cs b = H b
  | [], _, _ => rfl
  | (n, c) :: r, b, h => by
    rw [AHeap.cellsIn, AHeap.set_ne _ _ (h n c (.head _))]
    exact cells_none fun n c hm => h n c (.tail _ hm)
theorem St.laid {s : Shared} (S : St a L m H s) : ∀ {cs : List (Str × Addr)}, (∀ n c, (n, c) ∈ cs → s.heap.IsCell c none ∧ c ≠ L ∧ a.h₀.get? c = none) → St a L m (H.cellsIn cs) s
  | [], _ => S
  | (n, c) :: r, h => by
    obtain ⟨⟨o, ho, hd⟩, h2, h3⟩ := h n c (.head _)
    exact (S.laid fun n c hm => h n c (.tail _ hm)).adopt h2 h3 ho ⟨none, hd, rfl⟩
theorem comp_all {elt target iter : Expr} {ifs : List Expr} {scope : Scope} {pos p : Pos} {cl : List (Str × Addr)} {cells : Addr → List (Str × Addr)} {use : Option (Value → Sem Unit)} {s : Shared} {P : Value → Shared → Prop}
    (hh : A.handled = none) (ht : ∀ it v, letOwnedTupleGo target it v = pure ()) (hs : ∀ v, foldedSetIterable iter env v = pure v) (hcl : closureFor scope env = pure cl) (hk : scope.kind = .function)
    (hn : ∀ y ∈ scope.names, y.2 = .local → scope.names.lookup y.1 = some .local) (hnew : NewEnvOk a A scope cl env cells)
    (S : St a L m H s)
    (h : JE a A L m (eval iter env) H (fun v H₁ => ∃ (vs : List Value) (K : AHeap → Prop) (I : Addr → Nat → List Value → AHeap → Prop), Iters H₁ v vs K ∧ vs.length ≤ 100000 ∧
      (∀ C, (∀ n c, (n, c) ∈ cells C → H₁ c = none) → H₁ C = none → I C 0 [] (H₁.cellsIn (cells C)) ∧ K (H₁.cellsIn (cells C)) ∧ CTurn a A C (compEnvX scope (cells C ++ cl) C env) target elt ifs vs K (I C)) ∧
      (∀ C ys H₂ D, I C vs.length ys H₂ → H₂ D = none →
        match use with
        | none => ∀ s', St a L m (H₂.set D (.list ys)) s' → Step L H s (H₂.set D (.list ys)) s' → P (.ref D) s'
        | some u => JU a A L m (u (.ref D)) (H₂.set D (.list ys)) (fun m₁ H₃ => ∀ s₃ : Shared, St a L m₁ H₃ s₃ → Step L H s H₃ s₃ → P .none s₃)))) :
    wpAny (model a.prog a.w) A (comprehension (.ListComp elt [⟨target, iter, ifs, 0⟩] scope pos) scope env p (newList []) false (eval iter env) use) P (fun _ _ => False) s := by
  refine wpAny_comprehension_free (g := ⟨target, iter, ifs, 0⟩) (gs := []) rfl hs hcl hk hn (h.then S fun v s₁ H₁ S₁ T₁ q => ?_)
  obtain ⟨vs, K, I, hI, hz, start, done⟩ := q
  refine iter_of hI S₁ rfl fun it W s₂ Wk hW hit hk₂ hg₂ ho₂ => ?_
  obtain ⟨S₂, T₂⟩ := S₁.grown hk₂ hg₂ ho₂
  refine wpAny_newList ?_ (by simp)
  have hDsz := get?_size s₂.heap
  generalize hDdef : s₂.heap.objs.size = D at hDsz
  have hk₃ : ∀ b o, s₂.heap.get? b = some o → (s₂.heap.push { cls := .type "list", data := .seq (List.toArray []) }).get? b = some o := fun b o e => Heap.get?_push_of_some _ e
  have hD3 : (s₂.heap.push { cls := .type "list", data := .seq (List.toArray []) }).get? D = some { cls := .type "list", data := .seq #[] } := by rw [← hDdef]; exact Heap.get?_push_size _ rfl
  refine hnew { s₂ with heap := s₂.heap.push { cls := .type "list", data := .seq (List.toArray []) } } _ fun h' hns hk₄ hcells => ?_
  have hCsz := get?_size (s₂.heap.push { cls := .type "list", data := .seq (List.toArray []) })
  have hCsz' : (s₂.heap.push { cls := .type "list", data := .seq (List.toArray []) }).objs.size = s₂.heap.objs.size + 1 := Heap.size_push ..
  dsimp only at hns hk₄ hcells ⊢
  generalize hCdef : (s₂.heap.push { cls := .type "list", data := .seq (List.toArray []) }).objs.size = C at hCsz hns hcells hCsz' ⊢
  obtain ⟨oi, hoi⟩ := Wk.alive _ _ hW
  have hk24 : ∀ b o, s₂.heap.get? b = some o → h'.get? b = some o := fun b o e => hk₄ b o (hk₃ b o e)
  have hC2 : s₂.heap.get? C = none := by
    cases z : s₂.heap.get? C with
    | none => rfl
    | some o => rw [hk₃ _ _ z] at hCsz; cases hCsz
  have hC1 : s₁.heap.get? C = none := by
    cases z : s₁.heap.get? C with
    | none => rfl
    | some o => rw [hk₂ _ _ z] at hC2; cases hC2
  have hD1 : s₁.heap.get? D = none := by
    cases z : s₁.heap.get? D with
    | none => rfl
    | some o => rw [hk₂ _ _ z] at hDsz; cases hDsz
  have hCD : C ≠ D := fun z => by rw [z, hD3] at hCsz; cases hCsz
  have hCi : C ≠ it := fun z => by rw [z, hk₃ _ _ hoi] at hCsz; cases hCsz
  have hDi : D ≠ it := fun z => by rw [z, hoi] at hDsz; cases hDsz
  obtain ⟨S₄, T₄⟩ := S₂.grown (s' := { s₂ with heap := h' }) hk24 rfl rfl
  have cfree : ∀ n c, (n, c) ∈ cells C → s₂.heap.get? c = none := fun n c hm => by
    have := (hcells n c hm).2.1
    cases z : s₂.heap.get? c with
    | none => rfl
    | some o => rw [hk₃ _ _ z] at this; cases this
  have cfree1 : ∀ n c, (n, c) ∈ cells C → s₁.heap.get? c = none := fun n c hm => by
    have := cfree n c hm
    cases z : s₁.heap.get? c with
    | none => rfl
    | some o => rw [hk₂ _ _ z] at this; cases this
  have S₅ : St a L m (H₁.cellsIn (cells C)) { s₂ with heap := h' } := S₄.laid fun n c hm => ⟨(hcells n c hm).1, S₂.neL (cfree n c hm), S₂.base (cfree n c hm)⟩
  obtain ⟨i0, iK, turn⟩ := start C (fun n c hm => S₂.fresh (cfree n c hm)) (S₁.fresh hC1)
  have hin : ∀ b, (∀ n c, (n, c) ∈ cells C → b ≠ c) → (H₁.cellsIn (cells C)) b = H₁ b := fun b hb => cells_none hb
  have hCn : (H₁.cellsIn (cells C)) C = none := by
    rw [hin C fun n c hm z => (hcells n c hm).2.2 z.symm]; exact S₁.fresh hC1
  have hDn : (H₁.cellsIn (cells C)) D = none := by
    rw [hin D fun n c hm z => by have := (hcells n c hm).2.1; rw [← z, hD3] at this; cases this]; exact S₁.fresh hD1
  have hiN : (H₁.cellsIn (cells C)) it = none := by
    rw [hin it fun n c hm z => by have := cfree n c hm; rw [← z, hoi] at this; cases this]; exact S₁.fresh hit
  have hW4 : W 0 h' := Wk.frame _ _ _ hW fun o e => hk24 _ _ e
  have core := comp_core (a := a) (A := A) (L := L) (m := m) (H := H₁.cellsIn (cells C)) (s := { s₂ with heap := h' }) (elt := elt) (target := target) (iter := iter) (ifs := ifs) (scope := scope) (pos := pos) (cenv := compEnvX scope (cells C ++ cl) C env) (C := C) (D := D) (it := it)
    hh ht Wk hW4 S₅ (S₁.neL hC1) (S₁.neL hD1) (S₁.neL hit) hCD hCi hDi hCn hDn hiN (S₁.base hC1) (S₁.base hD1) (S₁.base hit) (Nat.le_trans S₂.above (by (first | lia | omega))) hns ⟨0, hk₄ _ _ hD3⟩ hz i0 iK turn
  have fin : ∀ r s', (∃ ys H' its mv', r = Except.ok Flow.next ∧ I C vs.length ys H' ∧ St a L m H' s' ∧ s'.heap.PlainList D its ∧ its.toList.map er = ys ∧ s'.heap.Ns C mv' ∧ H' D = none ∧ H' C = none ∧
        (∀ b o, b ≠ L → b ≠ C → b ≠ D → b ≠ it → (H₁.cellsIn (cells C)) b = none → h'.get? b = some o → s'.heap.get? b = some o ∧ H' b = none) ∧ s'.gens = s₂.gens ∧ s'.os = s₂.os) →
      compPost (model a.prog a.w) A (fun _ _ => False) use P (.ref D) C r s' := by
    rintro r s' ⟨ys, H', its, mv', rfl, hI', S', ⟨nD, hpD⟩, he, hns', hD', hC', hkeep, hg', ho'⟩
    have step : ∀ h'' : Heap, (∀ b o, b ≠ C → s'.heap.get? b = some o → h''.get? b = some o) → Step L H s (H'.set D (.list ys)) { s' with heap := h'' } := by
      intro h'' hk''
      refine T₁.trans ⟨fun b o hL hb e => ?_, hg'.trans hg₂, ho'.trans ho₂⟩
      have b2 : b ≠ C := fun z => by rw [z, hC1] at e; cases e
      have b3 : b ≠ D := fun z => by rw [z, hD1] at e; cases e
      have b4 : b ≠ it := fun z => by rw [z, hit] at e; cases e
      have b5 : (H₁.cellsIn (cells C)) b = none := by
        rw [hin b fun n c hm z => by have := cfree1 n c hm; rw [← z, e] at this; cases this]; exact hb
      obtain ⟨e₁, n₁⟩ := hkeep b o hL b2 b3 b4 b5 (hk24 _ _ (hk₂ _ _ e))
      exact ⟨hk'' _ _ b2 e₁, by rw [AHeap.set_ne _ _ b3]; exact n₁⟩
    have stt : ∀ h'' : Heap, (∀ b o, b ≠ C → s'.heap.get? b = some o → h''.get? b = some o) → St a L m (H'.set D (.list ys)) { s' with heap := h'' } := by
      intro h'' hk''
      exact (S'.but (s' := { s' with heap := h'' }) hC' (S₁.neL hC1) (S₁.base hC1) hk'').adopt (S₁.neL hD1) (S₁.base hD1) (hk'' _ _ (Ne.symm hCD) hpD) ⟨its, nD, rfl, he⟩
    have hdone := done C ys H' D
    cases use with
    | none =>
      refine ⟨mv', hns', fun h'' hsb => ?_⟩
      have hk'' : ∀ b o, b ≠ C → s'.heap.get? b = some o → h''.get? b = some o := fun b o hb e => (hsb.2 b hb).trans e
      exact hdone hI' hD' _ (stt h'' hk'') (step h'' hk'')
    | some u =>
      have hk0 : ∀ b o, b ≠ C → s'.heap.get? b = some o → s'.heap.get? b = some o := fun _ _ _ e => e
      refine wpAny_mono (hdone hI' hD' _ (stt s'.heap hk0)) (fun _ s'' ⟨m₁, H₃, S₃, T₃, q₃⟩ => ?_) fun _ _ x => x
      obtain ⟨oC, es, ep, hoC, hrC⟩ := hns'
      have hCset : (H'.set D (.list ys)) C = none := by rw [AHeap.set_ne _ _ hCD]; exact hC'
      obtain ⟨hoC'', hC3⟩ := T₃.keep C oC (S₁.neL hC1) hCset hoC
      refine ⟨mv', ⟨oC, es, ep, hoC'', hrC⟩, fun h'' hsb => ?_⟩
      have hk'' : ∀ b o, b ≠ C → s''.heap.get? b = some o → h''.get? b = some o := fun b o hb e => (hsb.2 b hb).trans e
      have T := (step s'.heap hk0).trans T₃
      have hC0 : s.heap.get? C = none ∨ True := .inr trivial
      refine q₃ _ (S₃.but (s' := { s'' with heap := h'' }) hC3 (S₁.neL hC1) (S₁.base hC1) hk'') (T₁.trans ⟨fun b o hL hb e => ?_, T₃.gens.trans (hg'.trans hg₂), T₃.os.trans (ho'.trans ho₂)⟩)
      have b2 : b ≠ C := fun z => by rw [z, hC1] at e; cases e
      have b3 : b ≠ D := fun z => by rw [z, hD1] at e; cases e
      have b4 : b ≠ it := fun z => by rw [z, hit] at e; cases e
      have b5 : (H₁.cellsIn (cells C)) b = none := by
        rw [hin b fun n c hm z => by have := cfree1 n c hm; rw [← z, e] at this; cases this]; exact hb
      obtain ⟨e₁, n₁⟩ := hkeep b o hL b2 b3 b4 b5 (hk24 _ _ (hk₂ _ _ e))
      obtain ⟨e₂, n₂⟩ := T₃.keep b o hL (by rw [AHeap.set_ne _ _ b3]; exact n₁) e₁
      exact ⟨hk'' _ _ b2 e₂, n₂⟩
  show codeAny _ _ (.compStart _ 0 (.ref it) (.ref D) (compEnvX scope (cells C ++ cl) C env)) _ _
  refine codeAny_compStart_list (codeAny_mono core fin) (wpAny_mono (Wk.self (P := fun v s' => v = .ref it ∧ s' = { s₂ with heap := h' }) 0 hW4 ⟨rfl, rfl⟩) (fun v s' e => ?_) fun _ _ x => x.elim)
  obtain ⟨rfl, rfl⟩ := e
  exact codeAny_mono core fin
/-- a comprehension as a value -/
theorem e_comp {elt target iter : Expr} {ifs : List Expr} {scope : Scope} {pos : Pos} {cl : List (Str × Addr)} {cells : Addr → List (Str × Addr)}
    (hh : A.handled = none) (ht : ∀ it v, letOwnedTupleGo target it v = pure ()) (hs : ∀ v, foldedSetIterable iter env v = pure v) (hcl : closureFor scope env = pure cl) (hk : scope.kind = .function)
    (hn : ∀ y ∈ scope.names, y.2 = .local → scope.names.lookup y.1 = some .local) (hnew : NewEnvOk a A scope cl env cells)
    (h : JE a A L m (eval iter env) H (fun v H₁ => ∃ (vs : List Value) (K : AHeap → Prop) (I : Addr → Nat → List Value → AHeap → Prop), Iters H₁ v vs K ∧ vs.length ≤ 100000 ∧
      (∀ C, (∀ n c, (n, c) ∈ cells C → H₁ c = none) → H₁ C = none → I C 0 [] (H₁.cellsIn (cells C)) ∧ K (H₁.cellsIn (cells C)) ∧ CTurn a A C (compEnvX scope (cells C ++ cl) C env) target elt ifs vs K (I C)) ∧
      (∀ C ys H₂ D, I C vs.length ys H₂ → H₂ D = none → Q (.ref D) (H₂.set D (.list ys))))) :
    JE a A L m (eval (.ListComp elt [⟨target, iter, ifs, 0⟩] scope pos) env) H Q := by
  intro s S
  show wpAny _ _ (comprehension (.ListComp elt [⟨target, iter, ifs, 0⟩] scope pos) scope env iter.pos (newList []) false (eval iter env) none) _ _ s
  refine comp_all (use := none) hh ht hs hcl hk hn hnew S (h.mono fun v H₁ ⟨vs, K, I, h1, h2, h3, h4⟩ => ⟨vs, K, I, h1, h2, h3, fun C ys H₂ D hI hD s' S' T' => ⟨_, S', T', h4 C ys H₂ D hI hD⟩⟩)
/-- a comprehension bound to a name of the same row (the stores exchanged) -/
theorem s_assign_comp {x : Str} {px : Pos} {elt target iter : Expr} {ifs : List Expr} {scope : Scope} {pos pos' : Pos} {cl : List (Str × Addr)} {cells : Addr → List (Str × Addr)}
    (hsw : swapsWith (.ListComp elt [⟨target, iter, ifs, 0⟩] scope pos) (some (.Name x px)) pos'.line env = pure true)
    (hh : A.handled = none) (ht : ∀ it v, letOwnedTupleGo target it v = pure ()) (hs : ∀ v, foldedSetIterable iter env v = pure v) (hcl : closureFor scope env = pure cl) (hk : scope.kind = .function)
    (hn : ∀ y ∈ scope.names, y.2 = .local → scope.names.lookup y.1 = some .local) (hnew : NewEnvOk a A scope cl env cells)
    (h : JE a A L m (eval iter env) H (fun v H₁ => ∃ (vs : List Value) (K : AHeap → Prop) (I : Addr → Nat → List Value → AHeap → Prop), Iters H₁ v vs K ∧ vs.length ≤ 100000 ∧
      (∀ C, (∀ n c, (n, c) ∈ cells C → H₁ c = none) → H₁ C = none → I C 0 [] (H₁.cellsIn (cells C)) ∧ K (H₁.cellsIn (cells C)) ∧ CTurn a A C (compEnvX scope (cells C ++ cl) C env) target elt ifs vs K (I C)) ∧
      (∀ C ys H₂ D, I C vs.length ys H₂ → H₂ D = none → JU a A L m (storeName env x (.ref D)) (H₂.set D (.list ys)) (fun m₁ H₃ => QS .next m₁ H₃)))) :
    JS a A L m (exec (.Assign [.Name x px] (.ListComp elt [⟨target, iter, ifs, 0⟩] scope pos) pos') env) H QS := by
  intro s S
  have he : exec (.Assign [.Name x px] (.ListComp elt [⟨target, iter, ifs, 0⟩] scope pos) pos') env = (do
      standAt pos'
      if ← swapsWithSole [.Name x px] (.ListComp elt [⟨target, iter, ifs, 0⟩] scope pos) pos'.line env then do
        evalThenUse (.ListComp elt [⟨target, iter, ifs, 0⟩] scope pos) env fun v => assignAll v ((assignEach [.Name x px] env).map (·.2))
        pure .next
      else do
        let v ← eval (.ListComp elt [⟨target, iter, ifs, 0⟩] scope pos) env
        assignStores env v (← swappedStores [.Name x px] (.ListComp elt [⟨target, iter, ifs, 0⟩] scope pos) env) ((assignEach [.Name x px] env).map (·.2))) := by rfl
  have he2 : evalThenUse (.ListComp elt [⟨target, iter, ifs, 0⟩] scope pos) env (fun v => assignAll v ((assignEach [.Name x px] env).map (·.2))) = (comprehension (.ListComp elt [⟨target, iter, ifs, 0⟩] scope pos) scope env iter.pos (newList []) false (eval iter env) (some fun v => assign (.Name x px) env v) >>= fun _ => pure PUnit.unit) := by
    unfold evalThenUse
    rfl
  rw [he]
  refine wpAny_bind (wpAny_standAt (wpAny_bind ?_))
  simp only [swapsWithSole]
  rw [hsw]
  refine wpAny_pure ?_
  simp only [if_true]
  rw [he2]
  refine wpAny_bind (wpAny_bind (wpAny_mono (comp_all (P := fun v s' => ∃ m₁ H₃, St a L m₁ H₃ s' ∧ Step L H s H₃ s' ∧ QS .next m₁ H₃) (use := some fun v => assign (.Name x px) env v) hh ht hs hcl hk hn hnew S
    (h.mono fun v H₁ ⟨vs, K, I, h1, h2, h3, h4⟩ => ⟨vs, K, I, h1, h2, h3, fun C ys H₂ D hI hD => u_name fun s₁ S₁ => wpAny_mono (h4 C ys H₂ D hI hD s₁ S₁) (fun _ s₂ ⟨m₁, H₃, S₃, T₃, q₃⟩ => ⟨m₁, H₃, S₃, T₃, fun s₃ S₄ T₄ => ⟨m₁, H₃, S₄, T₄, q₃⟩⟩) fun _ _ x => x⟩))
    (fun _ s' q => wpAny_pure (wpAny_pure q)) fun _ _ x => x))
end
end
-- Sol
section
/-- the solver's data -/
structure Dat where
  n : Nat
  vals : List Int
  levs : List Int
  reas : List Int
  phas : List Int
  acts : List Int
  step : Int
  cls : List (List Int)
  wat : List (List Nat)
  trail : List Int
  lims : List Nat
  head : Nat
  learned : List (List Int)
  refuted : Bool
  found : List Bool
/-- where they lie -/
structure Ad where
  d : Addr
  cls : Addr
  wat : Addr
  vals : Addr
  levs : Addr
  reas : Addr
  phas : Addr
  acts : Addr
  trail : Addr
  lims : Addr
  learned : Addr
  found : Addr
  cl : List Addr
  row : List Addr
  lrn : List Addr
abbrev vn (i : Nat) : Value := .int (i : Int) 0
def sfs (A : Ad) (D : Dat) : List (Str × Value) :=
  [(Str.ofString "count", vn D.n), (Str.ofString "clauses", .ref A.cls), (Str.ofString "watches", .ref A.wat), (Str.ofString "values", .ref A.vals), (Str.ofString "levels", .ref A.levs), (Str.ofString "reasons", .ref A.reas), (Str.ofString "phases", .ref A.phas),
   (Str.ofString "activity", .ref A.acts), (Str.ofString "step", vi D.step), (Str.ofString "trail", .ref A.trail), (Str.ofString "limits", .ref A.lims), (Str.ofString "head", vn D.head), (Str.ofString "learned", .ref A.learned), (Str.ofString "refuted", vb D.refuted), (Str.ofString "found", .ref A.found)]
structure Roles (A : Ad) (ρ : Addr → Nat) : Prop where
  cls : ρ A.cls = 1
  wat : ρ A.wat = 2
  vals : ρ A.vals = 3
  levs : ρ A.levs = 4
  reas : ρ A.reas = 5
  phas : ρ A.phas = 6
  acts : ρ A.acts = 7
  trail : ρ A.trail = 8
  lims : ρ A.lims = 9
  learned : ρ A.learned = 10
  found : ρ A.found = 11
  cl : ∀ (i : Nat) (l : Addr), A.cl[i]? = some l → ρ l = 12 + 2 * i
  row : ∀ (i : Nat) (l : Addr), A.row[i]? = some l → ρ l = 13 + 2 * i
structure SolAt (H : AHeap) (x : Addr) (A : Ad) (D : Dat) : Prop where
  inst : H x = some (.inst 190 A.d)
  dict : H A.d = some (.attrs (sfs A D))
  vals : H A.vals = some (.list (D.vals.map vi))
  levs : H A.levs = some (.list (D.levs.map vi))
  reas : H A.reas = some (.list (D.reas.map vi))
  phas : H A.phas = some (.list (D.phas.map vi))
  acts : H A.acts = some (.list (D.acts.map vi))
  trail : H A.trail = some (.list (D.trail.map vi))
  lims : H A.lims = some (.list (D.lims.map vn))
  cls : H A.cls = some (.list (A.cl.map .ref))
  cl : ∀ (i : Nat) (l : Addr) (c : List Int), A.cl[i]? = some l → D.cls[i]? = some c → H l = some (.list (c.map vi))
  cllen : A.cl.length = D.cls.length
  wat : H A.wat = some (.list (A.row.map .ref))
  row : ∀ (i : Nat) (l : Addr) (r : List Nat), A.row[i]? = some l → D.wat[i]? = some r → H l = some (.list (r.map vn))
  rowlen : A.row.length = D.wat.length
  learned : H A.learned = some (.list (A.lrn.map .ref))
  lrn : ∀ (i : Nat) (l : Addr) (c : List Int), A.lrn[i]? = some l → D.learned[i]? = some c → H l = some (.tuple (c.map vi))
  lrnlen : A.lrn.length = D.learned.length
  found : H A.found = some (.list (D.found.map vb))
  role : ∃ ρ, Roles A ρ
/-- the objects that a method may turn -/
def Own (A : Ad) (b : Addr) : Prop := b = A.d ∨ b = A.cls ∨ b = A.wat ∨ b = A.vals ∨ b = A.levs ∨ b = A.reas ∨ b = A.phas ∨ b = A.acts ∨ b = A.trail ∨ b = A.lims ∨ b = A.learned ∨ b = A.found ∨ b ∈ A.cl ∨ b ∈ A.row
/-- what lies beside stays, and is not taken over -/
def Ext (A : Ad) (H : AHeap) (A' : Ad) (H' : AHeap) : Prop := ∀ b c, H b = some c → ¬ Own A b → H' b = some c ∧ ¬ Own A' b
theorem Ext.refl (A : Ad) (H : AHeap) : Ext A H A H := fun _ _ h n => ⟨h, n⟩
theorem Ext.trans {A A₁ A₂ : Ad} {H H₁ H₂ : AHeap} (x : Ext A H A₁ H₁) (y : Ext A₁ H₁ A₂ H₂) : Ext A H A₂ H₂ := fun b c h n => let ⟨h₁, n₁⟩ := x b c h n; y b c h₁ n₁
theorem Ext.set {A : Ad} {H : AHeap} {l : Addr} {c : Cell} (h : Own A l) : Ext A H A (H.set l c) := fun b c' hb hn => ⟨by rw [AHeap.set_ne _ _ (fun e : b = l => hn (e ▸ h))]; exact hb, hn⟩
theorem single_get {α : Type} {u v : α} {i : Nat} (h : [u][i]? = some v) : i = 0 ∧ u = v := by
  cases i <;> simp at h; exact ⟨rfl, h⟩
namespace SolAt
variable {H : AHeap} {x : Addr} {A : Ad} {D : Dat}
theorem clOf (h : SolAt H x A D) {i : Nat} {l : Addr} (hl : A.cl[i]? = some l) : ∃ c, D.cls[i]? = some c ∧ H l = some (.list (c.map vi)) := by
  have hi : i < D.cls.length := by rw [← h.cllen]; exact (List.getElem?_eq_some_iff.mp hl).1
  exact ⟨D.cls[i], by simp [hi], h.cl i l _ hl (by simp [hi])⟩
theorem rowOf (h : SolAt H x A D) {i : Nat} {l : Addr} (hl : A.row[i]? = some l) : ∃ c, D.wat[i]? = some c ∧ H l = some (.list (c.map vn)) := by
  have hi : i < D.wat.length := by rw [← h.rowlen]; exact (List.getElem?_eq_some_iff.mp hl).1
  exact ⟨D.wat[i], by simp [hi], h.row i l _ hl (by simp [hi])⟩
theorem lrnOf (h : SolAt H x A D) {i : Nat} {l : Addr} (hl : A.lrn[i]? = some l) : ∃ c, D.learned[i]? = some c ∧ H l = some (.tuple (c.map vi)) := by
  have hi : i < D.learned.length := by rw [← h.lrnlen]; exact (List.getElem?_eq_some_iff.mp hl).1
  exact ⟨D.learned[i], by simp [hi], h.lrn i l _ hl (by simp [hi])⟩
/-- the cell of an owned list is a list -/
theorem list_own (h : SolAt H x A D) {b : Addr} (hb : Own A b) : b = A.d ∨ ∃ vs, H b = some (.list vs) := by
  rcases hb with e | e | e | e | e | e | e | e | e | e | e | e | e | e
  · exact .inl e
  · exact .inr ⟨_, by rw [e]; exact h.cls⟩
  · exact .inr ⟨_, by rw [e]; exact h.wat⟩
  · exact .inr ⟨_, by rw [e]; exact h.vals⟩
  · exact .inr ⟨_, by rw [e]; exact h.levs⟩
  · exact .inr ⟨_, by rw [e]; exact h.reas⟩
  · exact .inr ⟨_, by rw [e]; exact h.phas⟩
  · exact .inr ⟨_, by rw [e]; exact h.acts⟩
  · exact .inr ⟨_, by rw [e]; exact h.trail⟩
  · exact .inr ⟨_, by rw [e]; exact h.lims⟩
  · exact .inr ⟨_, by rw [e]; exact h.learned⟩
  · exact .inr ⟨_, by rw [e]; exact h.found⟩
  · obtain ⟨i, hi⟩ := List.getElem?_of_mem e
    obtain ⟨c, _, hc⟩ := h.clOf hi
    exact .inr ⟨_, hc⟩
  · obtain ⟨i, hi⟩ := List.getElem?_of_mem e
    obtain ⟨c, _, hc⟩ := h.rowOf hi
    exact .inr ⟨_, hc⟩
theorem x_own (h : SolAt H x A D) : ¬ Own A x := by
  intro hb
  rcases h.list_own hb with e | ⟨vs, e⟩
  · have := h.inst; rw [e, h.dict] at this; cases this
  · have := h.inst; rw [e] at this; cases this
theorem tup_own (h : SolAt H x A D) {b : Addr} {vs : List Value} (hb : H b = some (.tuple vs)) : ¬ Own A b := by
  intro ho
  rcases h.list_own ho with e | ⟨us, e⟩
  · have := h.dict; rw [← e, hb] at this; cases this
  · rw [hb] at e; cases e
theorem d_ne (h : SolAt H x A D) {b : Addr} {vs : List Value} (hb : H b = some (.list vs)) : A.d ≠ b := fun e => by have := h.dict; rw [e, hb] at this; cases this
theorem x_ne (h : SolAt H x A D) {b : Addr} {vs : List Value} (hb : H b = some (.list vs)) : x ≠ b := fun e => by have := h.inst; rw [e, hb] at this; cases this
theorem t_ne (h : SolAt H x A D) {b l : Addr} {vs us : List Value} (hb : H b = some (.list vs)) (hl : H l = some (.tuple us)) : l ≠ b := fun e => by rw [e, hb] at hl; cases hl
theorem set_vals (h : SolAt H x A D) (vs : List Int) : SolAt (H.set A.vals (.list (vs.map vi))) x A { D with vals := vs } := by
  obtain ⟨ρ, r⟩ := h.role
  have ne : ∀ b, ρ b ≠ 3 → b ≠ A.vals := fun b hb e => hb (e ▸ r.vals)
  exact
   { inst := (AHeap.set_ne _ _ (h.x_ne h.vals)).trans h.inst
     dict := (AHeap.set_ne _ _ (h.d_ne h.vals)).trans h.dict
     vals := AHeap.set_same ..
     levs := (AHeap.set_ne _ _ (ne _ (by rw [r.levs]; decide))).trans h.levs
     reas := (AHeap.set_ne _ _ (ne _ (by rw [r.reas]; decide))).trans h.reas
     phas := (AHeap.set_ne _ _ (ne _ (by rw [r.phas]; decide))).trans h.phas
     acts := (AHeap.set_ne _ _ (ne _ (by rw [r.acts]; decide))).trans h.acts
     trail := (AHeap.set_ne _ _ (ne _ (by rw [r.trail]; decide))).trans h.trail
     lims := (AHeap.set_ne _ _ (ne _ (by rw [r.lims]; decide))).trans h.lims
     cls := (AHeap.set_ne _ _ (ne _ (by rw [r.cls]; decide))).trans h.cls
     cl := fun i l c hl hc => (AHeap.set_ne _ _ (ne _ (by rw [r.cl i l hl]; (first | lia | omega)))).trans (h.cl i l c hl hc)
     cllen := h.cllen
     wat := (AHeap.set_ne _ _ (ne _ (by rw [r.wat]; decide))).trans h.wat
     row := fun i l c hl hc => (AHeap.set_ne _ _ (ne _ (by rw [r.row i l hl]; (first | lia | omega)))).trans (h.row i l c hl hc)
     rowlen := h.rowlen
     learned := (AHeap.set_ne _ _ (ne _ (by rw [r.learned]; decide))).trans h.learned
     lrn := fun i l c hl hc => (AHeap.set_ne _ _ (h.t_ne h.vals (h.lrn i l c hl hc))).trans (h.lrn i l c hl hc)
     lrnlen := h.lrnlen
     found := (AHeap.set_ne _ _ (ne _ (by rw [r.found]; decide))).trans h.found
     role := ⟨ρ, r⟩ }
theorem set_levs (h : SolAt H x A D) (vs : List Int) : SolAt (H.set A.levs (.list (vs.map vi))) x A { D with levs := vs } := by
  obtain ⟨ρ, r⟩ := h.role
  have ne : ∀ b, ρ b ≠ 4 → b ≠ A.levs := fun b hb e => hb (e ▸ r.levs)
  exact
   { inst := (AHeap.set_ne _ _ (h.x_ne h.levs)).trans h.inst
     dict := (AHeap.set_ne _ _ (h.d_ne h.levs)).trans h.dict
     vals := (AHeap.set_ne _ _ (ne _ (by rw [r.vals]; decide))).trans h.vals
     levs := AHeap.set_same ..
     reas := (AHeap.set_ne _ _ (ne _ (by rw [r.reas]; decide))).trans h.reas
     phas := (AHeap.set_ne _ _ (ne _ (by rw [r.phas]; decide))).trans h.phas
     acts := (AHeap.set_ne _ _ (ne _ (by rw [r.acts]; decide))).trans h.acts
     trail := (AHeap.set_ne _ _ (ne _ (by rw [r.trail]; decide))).trans h.trail
     lims := (AHeap.set_ne _ _ (ne _ (by rw [r.lims]; decide))).trans h.lims
     cls := (AHeap.set_ne _ _ (ne _ (by rw [r.cls]; decide))).trans h.cls
     cl := fun i l c hl hc => (AHeap.set_ne _ _ (ne _ (by rw [r.cl i l hl]; (first | lia | omega)))).trans (h.cl i l c hl hc)
     cllen := h.cllen
     wat := (AHeap.set_ne _ _ (ne _ (by rw [r.wat]; decide))).trans h.wat
     row := fun i l c hl hc => (AHeap.set_ne _ _ (ne _ (by rw [r.row i l hl]; (first | lia | omega)))).trans (h.row i l c hl hc)
     rowlen := h.rowlen
     learned := (AHeap.set_ne _ _ (ne _ (by rw [r.learned]; decide))).trans h.learned
     lrn := fun i l c hl hc => (AHeap.set_ne _ _ (h.t_ne h.levs (h.lrn i l c hl hc))).trans (h.lrn i l c hl hc)
     lrnlen := h.lrnlen
     found := (AHeap.set_ne _ _ (ne _ (by rw [r.found]; decide))).trans h.found
     role := ⟨ρ, r⟩ }
theorem set_reas (h : SolAt H x A D) (vs : List Int) : SolAt (H.set A.reas (.list (vs.map vi))) x A { D with reas := vs } := by
  obtain ⟨ρ, r⟩ := h.role
  have ne : ∀ b, ρ b ≠ 5 → b ≠ A.reas := fun b hb e => hb (e ▸ r.reas)
  exact
   { inst := (AHeap.set_ne _ _ (h.x_ne h.reas)).trans h.inst
     dict := (AHeap.set_ne _ _ (h.d_ne h.reas)).trans h.dict
     vals := (AHeap.set_ne _ _ (ne _ (by rw [r.vals]; decide))).trans h.vals
     levs := (AHeap.set_ne _ _ (ne _ (by rw [r.levs]; decide))).trans h.levs
     reas := AHeap.set_same ..
     phas := (AHeap.set_ne _ _ (ne _ (by rw [r.phas]; decide))).trans h.phas
     acts := (AHeap.set_ne _ _ (ne _ (by rw [r.acts]; decide))).trans h.acts
     trail := (AHeap.set_ne _ _ (ne _ (by rw [r.trail]; decide))).trans h.trail
     lims := (AHeap.set_ne _ _ (ne _ (by rw [r.lims]; decide))).trans h.lims
     cls := (AHeap.set_ne _ _ (ne _ (by rw [r.cls]; decide))).trans h.cls
     cl := fun i l c hl hc => (AHeap.set_ne _ _ (ne _ (by rw [r.cl i l hl]; (first | lia | omega)))).trans (h.cl i l c hl hc)
     cllen := h.cllen
     wat := (AHeap.set_ne _ _ (ne _ (by rw [r.wat]; decide))).trans h.wat
     row := fun i l c hl hc => (AHeap.set_ne _ _ (ne _ (by rw [r.row i l hl]; (first | lia | omega)))).trans (h.row i l c hl hc)
     rowlen := h.rowlen
     learned := (AHeap.set_ne _ _ (ne _ (by rw [r.learned]; decide))).trans h.learned
     lrn := fun i l c hl hc => (AHeap.set_ne _ _ (h.t_ne h.reas (h.lrn i l c hl hc))).trans (h.lrn i l c hl hc)
     lrnlen := h.lrnlen
     found := (AHeap.set_ne _ _ (ne _ (by rw [r.found]; decide))).trans h.found
     role := ⟨ρ, r⟩ }
theorem set_phas (h : SolAt H x A D) (vs : List Int) : SolAt (H.set A.phas (.list (vs.map vi))) x A { D with phas := vs } := by
  obtain ⟨ρ, r⟩ := h.role
  have ne : ∀ b, ρ b ≠ 6 → b ≠ A.phas := fun b hb e => hb (e ▸ r.phas)
  exact
   { inst := (AHeap.set_ne _ _ (h.x_ne h.phas)).trans h.inst
     dict := (AHeap.set_ne _ _ (h.d_ne h.phas)).trans h.dict
     vals := (AHeap.set_ne _ _ (ne _ (by rw [r.vals]; decide))).trans h.vals
     levs := (AHeap.set_ne _ _ (ne _ (by rw [r.levs]; decide))).trans h.levs
     reas := (AHeap.set_ne _ _ (ne _ (by rw [r.reas]; decide))).trans h.reas
     phas := AHeap.set_same ..
     acts := (AHeap.set_ne _ _ (ne _ (by rw [r.acts]; decide))).trans h.acts
     trail := (AHeap.set_ne _ _ (ne _ (by rw [r.trail]; decide))).trans h.trail
     lims := (AHeap.set_ne _ _ (ne _ (by rw [r.lims]; decide))).trans h.lims
     cls := (AHeap.set_ne _ _ (ne _ (by rw [r.cls]; decide))).trans h.cls
     cl := fun i l c hl hc => (AHeap.set_ne _ _ (ne _ (by rw [r.cl i l hl]; (first | lia | omega)))).trans (h.cl i l c hl hc)
     cllen := h.cllen
     wat := (AHeap.set_ne _ _ (ne _ (by rw [r.wat]; decide))).trans h.wat
     row := fun i l c hl hc => (AHeap.set_ne _ _ (ne _ (by rw [r.row i l hl]; (first | lia | omega)))).trans (h.row i l c hl hc)
     rowlen := h.rowlen
     learned := (AHeap.set_ne _ _ (ne _ (by rw [r.learned]; decide))).trans h.learned
     lrn := fun i l c hl hc => (AHeap.set_ne _ _ (h.t_ne h.phas (h.lrn i l c hl hc))).trans (h.lrn i l c hl hc)
     lrnlen := h.lrnlen
     found := (AHeap.set_ne _ _ (ne _ (by rw [r.found]; decide))).trans h.found
     role := ⟨ρ, r⟩ }
theorem set_acts (h : SolAt H x A D) (vs : List Int) : SolAt (H.set A.acts (.list (vs.map vi))) x A { D with acts := vs } := by
  obtain ⟨ρ, r⟩ := h.role
  have ne : ∀ b, ρ b ≠ 7 → b ≠ A.acts := fun b hb e => hb (e ▸ r.acts)
  exact
   { inst := (AHeap.set_ne _ _ (h.x_ne h.acts)).trans h.inst
     dict := (AHeap.set_ne _ _ (h.d_ne h.acts)).trans h.dict
     vals := (AHeap.set_ne _ _ (ne _ (by rw [r.vals]; decide))).trans h.vals
     levs := (AHeap.set_ne _ _ (ne _ (by rw [r.levs]; decide))).trans h.levs
     reas := (AHeap.set_ne _ _ (ne _ (by rw [r.reas]; decide))).trans h.reas
     phas := (AHeap.set_ne _ _ (ne _ (by rw [r.phas]; decide))).trans h.phas
     acts := AHeap.set_same ..
     trail := (AHeap.set_ne _ _ (ne _ (by rw [r.trail]; decide))).trans h.trail
     lims := (AHeap.set_ne _ _ (ne _ (by rw [r.lims]; decide))).trans h.lims
     cls := (AHeap.set_ne _ _ (ne _ (by rw [r.cls]; decide))).trans h.cls
     cl := fun i l c hl hc => (AHeap.set_ne _ _ (ne _ (by rw [r.cl i l hl]; (first | lia | omega)))).trans (h.cl i l c hl hc)
     cllen := h.cllen
     wat := (AHeap.set_ne _ _ (ne _ (by rw [r.wat]; decide))).trans h.wat
     row := fun i l c hl hc => (AHeap.set_ne _ _ (ne _ (by rw [r.row i l hl]; (first | lia | omega)))).trans (h.row i l c hl hc)
     rowlen := h.rowlen
     learned := (AHeap.set_ne _ _ (ne _ (by rw [r.learned]; decide))).trans h.learned
     lrn := fun i l c hl hc => (AHeap.set_ne _ _ (h.t_ne h.acts (h.lrn i l c hl hc))).trans (h.lrn i l c hl hc)
     lrnlen := h.lrnlen
     found := (AHeap.set_ne _ _ (ne _ (by rw [r.found]; decide))).trans h.found
     role := ⟨ρ, r⟩ }
theorem set_trail (h : SolAt H x A D) (vs : List Int) : SolAt (H.set A.trail (.list (vs.map vi))) x A { D with trail := vs } := by
  obtain ⟨ρ, r⟩ := h.role
  have ne : ∀ b, ρ b ≠ 8 → b ≠ A.trail := fun b hb e => hb (e ▸ r.trail)
  exact
   { inst := (AHeap.set_ne _ _ (h.x_ne h.trail)).trans h.inst
     dict := (AHeap.set_ne _ _ (h.d_ne h.trail)).trans h.dict
     vals := (AHeap.set_ne _ _ (ne _ (by rw [r.vals]; decide))).trans h.vals
     levs := (AHeap.set_ne _ _ (ne _ (by rw [r.levs]; decide))).trans h.levs
     reas := (AHeap.set_ne _ _ (ne _ (by rw [r.reas]; decide))).trans h.reas
     phas := (AHeap.set_ne _ _ (ne _ (by rw [r.phas]; decide))).trans h.phas
     acts := (AHeap.set_ne _ _ (ne _ (by rw [r.acts]; decide))).trans h.acts
     trail := AHeap.set_same ..
     lims := (AHeap.set_ne _ _ (ne _ (by rw [r.lims]; decide))).trans h.lims
     cls := (AHeap.set_ne _ _ (ne _ (by rw [r.cls]; decide))).trans h.cls
     cl := fun i l c hl hc => (AHeap.set_ne _ _ (ne _ (by rw [r.cl i l hl]; (first | lia | omega)))).trans (h.cl i l c hl hc)
     cllen := h.cllen
     wat := (AHeap.set_ne _ _ (ne _ (by rw [r.wat]; decide))).trans h.wat
     row := fun i l c hl hc => (AHeap.set_ne _ _ (ne _ (by rw [r.row i l hl]; (first | lia | omega)))).trans (h.row i l c hl hc)
     rowlen := h.rowlen
     learned := (AHeap.set_ne _ _ (ne _ (by rw [r.learned]; decide))).trans h.learned
     lrn := fun i l c hl hc => (AHeap.set_ne _ _ (h.t_ne h.trail (h.lrn i l c hl hc))).trans (h.lrn i l c hl hc)
     lrnlen := h.lrnlen
     found := (AHeap.set_ne _ _ (ne _ (by rw [r.found]; decide))).trans h.found
     role := ⟨ρ, r⟩ }
theorem set_lims (h : SolAt H x A D) (vs : List Nat) : SolAt (H.set A.lims (.list (vs.map vn))) x A { D with lims := vs } := by
  obtain ⟨ρ, r⟩ := h.role
  have ne : ∀ b, ρ b ≠ 9 → b ≠ A.lims := fun b hb e => hb (e ▸ r.lims)
  exact
   { inst := (AHeap.set_ne _ _ (h.x_ne h.lims)).trans h.inst
     dict := (AHeap.set_ne _ _ (h.d_ne h.lims)).trans h.dict
     vals := (AHeap.set_ne _ _ (ne _ (by rw [r.vals]; decide))).trans h.vals
     levs := (AHeap.set_ne _ _ (ne _ (by rw [r.levs]; decide))).trans h.levs
     reas := (AHeap.set_ne _ _ (ne _ (by rw [r.reas]; decide))).trans h.reas
     phas := (AHeap.set_ne _ _ (ne _ (by rw [r.phas]; decide))).trans h.phas
     acts := (AHeap.set_ne _ _ (ne _ (by rw [r.acts]; decide))).trans h.acts
     trail := (AHeap.set_ne _ _ (ne _ (by rw [r.trail]; decide))).trans h.trail
     lims := AHeap.set_same ..
     cls := (AHeap.set_ne _ _ (ne _ (by rw [r.cls]; decide))).trans h.cls
     cl := fun i l c hl hc => (AHeap.set_ne _ _ (ne _ (by rw [r.cl i l hl]; (first | lia | omega)))).trans (h.cl i l c hl hc)
     cllen := h.cllen
     wat := (AHeap.set_ne _ _ (ne _ (by rw [r.wat]; decide))).trans h.wat
     row := fun i l c hl hc => (AHeap.set_ne _ _ (ne _ (by rw [r.row i l hl]; (first | lia | omega)))).trans (h.row i l c hl hc)
     rowlen := h.rowlen
     learned := (AHeap.set_ne _ _ (ne _ (by rw [r.learned]; decide))).trans h.learned
     lrn := fun i l c hl hc => (AHeap.set_ne _ _ (h.t_ne h.lims (h.lrn i l c hl hc))).trans (h.lrn i l c hl hc)
     lrnlen := h.lrnlen
     found := (AHeap.set_ne _ _ (ne _ (by rw [r.found]; decide))).trans h.found
     role := ⟨ρ, r⟩ }
theorem set_cl (h : SolAt H x A D) {j : Nat} {b : Addr} (hb : A.cl[j]? = some b) (c' : List Int) : SolAt (H.set b (.list (c'.map vi))) x A { D with cls := D.cls.set j c' } := by
  obtain ⟨ρ, r⟩ := h.role
  obtain ⟨c₀, _, hc₀⟩ := h.clOf hb
  have ne : ∀ l, ρ l ≠ 12 + 2 * j → l ≠ b := fun l hl e => hl (e ▸ r.cl j b hb)
  exact
   { inst := (AHeap.set_ne _ _ (h.x_ne hc₀)).trans h.inst
     dict := (AHeap.set_ne _ _ (h.d_ne hc₀)).trans h.dict
     vals := (AHeap.set_ne _ _ (ne _ (by rw [r.vals]; (first | lia | omega)))).trans h.vals
     levs := (AHeap.set_ne _ _ (ne _ (by rw [r.levs]; (first | lia | omega)))).trans h.levs
     reas := (AHeap.set_ne _ _ (ne _ (by rw [r.reas]; (first | lia | omega)))).trans h.reas
     phas := (AHeap.set_ne _ _ (ne _ (by rw [r.phas]; (first | lia | omega)))).trans h.phas
     acts := (AHeap.set_ne _ _ (ne _ (by rw [r.acts]; (first | lia | omega)))).trans h.acts
     trail := (AHeap.set_ne _ _ (ne _ (by rw [r.trail]; (first | lia | omega)))).trans h.trail
     lims := (AHeap.set_ne _ _ (ne _ (by rw [r.lims]; (first | lia | omega)))).trans h.lims
     cls := (AHeap.set_ne _ _ (ne _ (by rw [r.cls]; (first | lia | omega)))).trans h.cls
     cl := fun i l c hl hc => by
       by_cases e : i = j
       · subst e
         rw [hb] at hl; cases hl
         have hlt := (List.getElem?_eq_some_iff.mp hb).1
         rw [List.getElem?_set_self (by have := h.cllen; (first | lia | omega))] at hc; cases hc
         exact AHeap.set_same ..
       · rw [List.getElem?_set_ne (Ne.symm e)] at hc
         exact (AHeap.set_ne _ _ (ne _ (by rw [r.cl i l hl]; (first | lia | omega)))).trans (h.cl i l c hl hc)
     cllen := by rw [List.length_set]; exact h.cllen
     wat := (AHeap.set_ne _ _ (ne _ (by rw [r.wat]; (first | lia | omega)))).trans h.wat
     row := fun i l c hl hc => (AHeap.set_ne _ _ (ne _ (by rw [r.row i l hl]; (first | lia | omega)))).trans (h.row i l c hl hc)
     rowlen := h.rowlen
     learned := (AHeap.set_ne _ _ (ne _ (by rw [r.learned]; (first | lia | omega)))).trans h.learned
     lrn := fun i l c hl hc => (AHeap.set_ne _ _ (h.t_ne hc₀ (h.lrn i l c hl hc))).trans (h.lrn i l c hl hc)
     lrnlen := h.lrnlen
     found := (AHeap.set_ne _ _ (ne _ (by rw [r.found]; (first | lia | omega)))).trans h.found
     role := ⟨ρ, r⟩ }
theorem set_row (h : SolAt H x A D) {j : Nat} {b : Addr} (hb : A.row[j]? = some b) (c' : List Nat) : SolAt (H.set b (.list (c'.map vn))) x A { D with wat := D.wat.set j c' } := by
  obtain ⟨ρ, r⟩ := h.role
  obtain ⟨c₀, _, hc₀⟩ := h.rowOf hb
  have ne : ∀ l, ρ l ≠ 13 + 2 * j → l ≠ b := fun l hl e => hl (e ▸ r.row j b hb)
  exact
   { inst := (AHeap.set_ne _ _ (h.x_ne hc₀)).trans h.inst
     dict := (AHeap.set_ne _ _ (h.d_ne hc₀)).trans h.dict
     vals := (AHeap.set_ne _ _ (ne _ (by rw [r.vals]; (first | lia | omega)))).trans h.vals
     levs := (AHeap.set_ne _ _ (ne _ (by rw [r.levs]; (first | lia | omega)))).trans h.levs
     reas := (AHeap.set_ne _ _ (ne _ (by rw [r.reas]; (first | lia | omega)))).trans h.reas
     phas := (AHeap.set_ne _ _ (ne _ (by rw [r.phas]; (first | lia | omega)))).trans h.phas
     acts := (AHeap.set_ne _ _ (ne _ (by rw [r.acts]; (first | lia | omega)))).trans h.acts
     trail := (AHeap.set_ne _ _ (ne _ (by rw [r.trail]; (first | lia | omega)))).trans h.trail
     lims := (AHeap.set_ne _ _ (ne _ (by rw [r.lims]; (first | lia | omega)))).trans h.lims
     cls := (AHeap.set_ne _ _ (ne _ (by rw [r.cls]; (first | lia | omega)))).trans h.cls
     cl := fun i l c hl hc => (AHeap.set_ne _ _ (ne _ (by rw [r.cl i l hl]; (first | lia | omega)))).trans (h.cl i l c hl hc)
     cllen := h.cllen
     wat := (AHeap.set_ne _ _ (ne _ (by rw [r.wat]; (first | lia | omega)))).trans h.wat
     row := fun i l c hl hc => by
       by_cases e : i = j
       · subst e
         rw [hb] at hl; cases hl
         have hlt := (List.getElem?_eq_some_iff.mp hb).1
         rw [List.getElem?_set_self (by have := h.rowlen; (first | lia | omega))] at hc; cases hc
         exact AHeap.set_same ..
       · rw [List.getElem?_set_ne (Ne.symm e)] at hc
         exact (AHeap.set_ne _ _ (ne _ (by rw [r.row i l hl]; (first | lia | omega)))).trans (h.row i l c hl hc)
     rowlen := by rw [List.length_set]; exact h.rowlen
     learned := (AHeap.set_ne _ _ (ne _ (by rw [r.learned]; (first | lia | omega)))).trans h.learned
     lrn := fun i l c hl hc => (AHeap.set_ne _ _ (h.t_ne hc₀ (h.lrn i l c hl hc))).trans (h.lrn i l c hl hc)
     lrnlen := h.lrnlen
     found := (AHeap.set_ne _ _ (ne _ (by rw [r.found]; (first | lia | omega)))).trans h.found
     role := ⟨ρ, r⟩ }
theorem set_dict (h : SolAt H x A D) (n' : Nat) (s' : Int) (h' : Nat) (r' : Bool) : SolAt (H.set A.d (.attrs (sfs A { D with n := n', step := s', head := h', refuted := r' }))) x A { D with n := n', step := s', head := h', refuted := r' } := by
  have ne : ∀ {b : Addr} {vs : List Value}, H b = some (.list vs) → b ≠ A.d := fun hb e => h.d_ne hb e.symm
  have hx : x ≠ A.d := fun e => by have := h.inst; rw [e, h.dict] at this; cases this
  have ht : ∀ {b : Addr} {vs : List Value}, H b = some (.tuple vs) → b ≠ A.d := fun hb e => by rw [e, h.dict] at hb; cases hb
  exact
   { inst := (AHeap.set_ne _ _ hx).trans h.inst
     dict := AHeap.set_same ..
     vals := (AHeap.set_ne _ _ (ne h.vals)).trans h.vals
     levs := (AHeap.set_ne _ _ (ne h.levs)).trans h.levs
     reas := (AHeap.set_ne _ _ (ne h.reas)).trans h.reas
     phas := (AHeap.set_ne _ _ (ne h.phas)).trans h.phas
     acts := (AHeap.set_ne _ _ (ne h.acts)).trans h.acts
     trail := (AHeap.set_ne _ _ (ne h.trail)).trans h.trail
     lims := (AHeap.set_ne _ _ (ne h.lims)).trans h.lims
     cls := (AHeap.set_ne _ _ (ne h.cls)).trans h.cls
     wat := (AHeap.set_ne _ _ (ne h.wat)).trans h.wat
     learned := (AHeap.set_ne _ _ (ne h.learned)).trans h.learned
     found := (AHeap.set_ne _ _ (ne h.found)).trans h.found
     cl := fun i l c hl hc => (AHeap.set_ne _ _ (ne (h.cl i l c hl hc))).trans (h.cl i l c hl hc)
     cllen := h.cllen
     row := fun i l c hl hc => (AHeap.set_ne _ _ (ne (h.row i l c hl hc))).trans (h.row i l c hl hc)
     rowlen := h.rowlen
     lrn := fun i l c hl hc => (AHeap.set_ne _ _ (ht (h.lrn i l c hl hc))).trans (h.lrn i l c hl hc)
     lrnlen := h.lrnlen
     role := h.role }
/-- a list of the outside is no list of the solver's -/
theorem out_ne {b : Addr} (hb : ¬ Own A b) {l : Addr} (hl : Own A l) : l ≠ b := fun e => hb (e ▸ hl)
end SolAt
theorem own_cls (A : Ad) : Own A A.cls := by simp [Own]
theorem own_wat (A : Ad) : Own A A.wat := by simp [Own]
theorem own_vals (A : Ad) : Own A A.vals := by simp [Own]
theorem own_levs (A : Ad) : Own A A.levs := by simp [Own]
theorem own_reas (A : Ad) : Own A A.reas := by simp [Own]
theorem own_phas (A : Ad) : Own A A.phas := by simp [Own]
theorem own_acts (A : Ad) : Own A A.acts := by simp [Own]
theorem own_trail (A : Ad) : Own A A.trail := by simp [Own]
theorem own_lims (A : Ad) : Own A A.lims := by simp [Own]
theorem own_learned (A : Ad) : Own A A.learned := by simp [Own]
theorem own_found (A : Ad) : Own A A.found := by simp [Own]
theorem ownb_lims {A : Ad} {b z : Addr} (o : Own { A with lims := b } z) : Own A z ∨ z = b := by
  rcases o with o | o | o | o | o | o | o | o | o | o | o | o | o | o
  · exact .inl (.inl o)
  · exact .inl (.inr (.inl o))
  · exact .inl (.inr (.inr (.inl o)))
  · exact .inl (.inr (.inr (.inr (.inl o))))
  · exact .inl (.inr (.inr (.inr (.inr (.inl o)))))
  · exact .inl (.inr (.inr (.inr (.inr (.inr (.inl o))))))
  · exact .inl (.inr (.inr (.inr (.inr (.inr (.inr (.inl o)))))))
  · exact .inl (.inr (.inr (.inr (.inr (.inr (.inr (.inr (.inl o))))))))
  · exact .inl (.inr (.inr (.inr (.inr (.inr (.inr (.inr (.inr (.inl o)))))))))
  · exact .inr o
  · exact .inl (.inr (.inr (.inr (.inr (.inr (.inr (.inr (.inr (.inr (.inr (.inl o)))))))))))
  · exact .inl (.inr (.inr (.inr (.inr (.inr (.inr (.inr (.inr (.inr (.inr (.inr (.inl o))))))))))))
  · exact .inl (.inr (.inr (.inr (.inr (.inr (.inr (.inr (.inr (.inr (.inr (.inr (.inr (.inl o)))))))))))))
  · exact .inl (.inr (.inr (.inr (.inr (.inr (.inr (.inr (.inr (.inr (.inr (.inr (.inr (.inr o)))))))))))))
theorem ownb_found {A : Ad} {b z : Addr} (o : Own { A with found := b } z) : Own A z ∨ z = b := by
  rcases o with o | o | o | o | o | o | o | o | o | o | o | o | o | o
  · exact .inl (.inl o)
  · exact .inl (.inr (.inl o))
  · exact .inl (.inr (.inr (.inl o)))
  · exact .inl (.inr (.inr (.inr (.inl o))))
  · exact .inl (.inr (.inr (.inr (.inr (.inl o)))))
  · exact .inl (.inr (.inr (.inr (.inr (.inr (.inl o))))))
  · exact .inl (.inr (.inr (.inr (.inr (.inr (.inr (.inl o)))))))
  · exact .inl (.inr (.inr (.inr (.inr (.inr (.inr (.inr (.inl o))))))))
  · exact .inl (.inr (.inr (.inr (.inr (.inr (.inr (.inr (.inr (.inl o)))))))))
  · exact .inl (.inr (.inr (.inr (.inr (.inr (.inr (.inr (.inr (.inr (.inl o))))))))))
  · exact .inl (.inr (.inr (.inr (.inr (.inr (.inr (.inr (.inr (.inr (.inr (.inl o)))))))))))
  · exact .inr o
  · exact .inl (.inr (.inr (.inr (.inr (.inr (.inr (.inr (.inr (.inr (.inr (.inr (.inr (.inl o)))))))))))))
  · exact .inl (.inr (.inr (.inr (.inr (.inr (.inr (.inr (.inr (.inr (.inr (.inr (.inr (.inr o)))))))))))))
theorem own_cl_snoc {A : Ad} {b z : Addr} (o : Own { A with cl := A.cl ++ [b] } z) : Own A z ∨ z = b := by
  rcases o with o | o | o | o | o | o | o | o | o | o | o | o | o | o
  · exact .inl (.inl o)
  · exact .inl (.inr (.inl o))
  · exact .inl (.inr (.inr (.inl o)))
  · exact .inl (.inr (.inr (.inr (.inl o))))
  · exact .inl (.inr (.inr (.inr (.inr (.inl o)))))
  · exact .inl (.inr (.inr (.inr (.inr (.inr (.inl o))))))
  · exact .inl (.inr (.inr (.inr (.inr (.inr (.inr (.inl o)))))))
  · exact .inl (.inr (.inr (.inr (.inr (.inr (.inr (.inr (.inl o))))))))
  · exact .inl (.inr (.inr (.inr (.inr (.inr (.inr (.inr (.inr (.inl o)))))))))
  · exact .inl (.inr (.inr (.inr (.inr (.inr (.inr (.inr (.inr (.inr (.inl o))))))))))
  · exact .inl (.inr (.inr (.inr (.inr (.inr (.inr (.inr (.inr (.inr (.inr (.inl o)))))))))))
  · exact .inl (.inr (.inr (.inr (.inr (.inr (.inr (.inr (.inr (.inr (.inr (.inr (.inl o))))))))))))
  · exact (List.mem_append.mp o).elim (fun o => .inl (.inr (.inr (.inr (.inr (.inr (.inr (.inr (.inr (.inr (.inr (.inr (.inr (.inl o)))))))))))))) (fun o => .inr (List.mem_singleton.mp o))
  · exact .inl (.inr (.inr (.inr (.inr (.inr (.inr (.inr (.inr (.inr (.inr (.inr (.inr (.inr o)))))))))))))
theorem own_row_set {A : Ad} {j : Nat} {b z : Addr} (o : Own { A with row := A.row.set j b } z) : Own A z ∨ z = b := by
  rcases o with o | o | o | o | o | o | o | o | o | o | o | o | o | o
  · exact .inl (.inl o)
  · exact .inl (.inr (.inl o))
  · exact .inl (.inr (.inr (.inl o)))
  · exact .inl (.inr (.inr (.inr (.inl o))))
  · exact .inl (.inr (.inr (.inr (.inr (.inl o)))))
  · exact .inl (.inr (.inr (.inr (.inr (.inr (.inl o))))))
  · exact .inl (.inr (.inr (.inr (.inr (.inr (.inr (.inl o)))))))
  · exact .inl (.inr (.inr (.inr (.inr (.inr (.inr (.inr (.inl o))))))))
  · exact .inl (.inr (.inr (.inr (.inr (.inr (.inr (.inr (.inr (.inl o)))))))))
  · exact .inl (.inr (.inr (.inr (.inr (.inr (.inr (.inr (.inr (.inr (.inl o))))))))))
  · exact .inl (.inr (.inr (.inr (.inr (.inr (.inr (.inr (.inr (.inr (.inr (.inl o)))))))))))
  · exact .inl (.inr (.inr (.inr (.inr (.inr (.inr (.inr (.inr (.inr (.inr (.inr (.inl o))))))))))))
  · exact .inl (.inr (.inr (.inr (.inr (.inr (.inr (.inr (.inr (.inr (.inr (.inr (.inr (.inl o)))))))))))))
  · exact (List.mem_or_eq_of_mem_set o).elim (fun o => .inl (.inr (.inr (.inr (.inr (.inr (.inr (.inr (.inr (.inr (.inr (.inr (.inr (.inr o)))))))))))))) .inr
theorem own_d (A : Ad) : Own A A.d := by simp [Own]
theorem own_cl {A : Ad} {l : Addr} {i : Nat} (h : A.cl[i]? = some l) : Own A l := by have := List.mem_of_getElem? h; simp [Own, this]
theorem own_row {A : Ad} {l : Addr} {i : Nat} (h : A.row[i]? = some l) : Own A l := by have := List.mem_of_getElem? h; simp [Own, this]
namespace SolAt
variable {H : AHeap} {x : Addr} {A : Ad} {D : Dat}
/-- the field limits is bound to a list of the outside -/
theorem bind_lims (h : SolAt H x A D) {b : Addr} {vs : List Nat} (hb : H b = some (.list (vs.map vn))) (ho : ¬ Own A b) : SolAt (H.set A.d (.attrs (sfs { A with lims := b } D))) x { A with lims := b } { D with lims := vs } := by
  obtain ⟨ρ, r⟩ := h.role
  have ne : ∀ {b : Addr} {vs : List Value}, H b = some (.list vs) → b ≠ A.d := fun hb e => h.d_ne hb e.symm
  have hx : x ≠ A.d := fun e => by have := h.inst; rw [e, h.dict] at this; cases this
  have ht : ∀ {b : Addr} {vs : List Value}, H b = some (.tuple vs) → b ≠ A.d := fun hb e => by rw [e, h.dict] at hb; cases hb
  exact
   { inst := (AHeap.set_ne _ _ hx).trans h.inst
     dict := AHeap.set_same ..
     vals := (AHeap.set_ne _ _ (ne h.vals)).trans h.vals
     levs := (AHeap.set_ne _ _ (ne h.levs)).trans h.levs
     reas := (AHeap.set_ne _ _ (ne h.reas)).trans h.reas
     phas := (AHeap.set_ne _ _ (ne h.phas)).trans h.phas
     acts := (AHeap.set_ne _ _ (ne h.acts)).trans h.acts
     trail := (AHeap.set_ne _ _ (ne h.trail)).trans h.trail
     lims := (AHeap.set_ne _ _ (ne hb)).trans hb
     cls := (AHeap.set_ne _ _ (ne h.cls)).trans h.cls
     wat := (AHeap.set_ne _ _ (ne h.wat)).trans h.wat
     learned := (AHeap.set_ne _ _ (ne h.learned)).trans h.learned
     found := (AHeap.set_ne _ _ (ne h.found)).trans h.found
     cl := fun i l c hl hc => (AHeap.set_ne _ _ (ne (h.cl i l c hl hc))).trans (h.cl i l c hl hc)
     cllen := h.cllen
     row := fun i l c hl hc => (AHeap.set_ne _ _ (ne (h.row i l c hl hc))).trans (h.row i l c hl hc)
     rowlen := h.rowlen
     lrn := fun i l c hl hc => (AHeap.set_ne _ _ (ht (h.lrn i l c hl hc))).trans (h.lrn i l c hl hc)
     lrnlen := h.lrnlen
     role := ⟨fun z => if z = b then 9 else ρ z, ⟨by rw [if_neg (out_ne ho (own_cls A))]; exact r.cls, by rw [if_neg (out_ne ho (own_wat A))]; exact r.wat, by rw [if_neg (out_ne ho (own_vals A))]; exact r.vals, by rw [if_neg (out_ne ho (own_levs A))]; exact r.levs, by rw [if_neg (out_ne ho (own_reas A))]; exact r.reas, by rw [if_neg (out_ne ho (own_phas A))]; exact r.phas, by rw [if_neg (out_ne ho (own_acts A))]; exact r.acts, by rw [if_neg (out_ne ho (own_trail A))]; exact r.trail, by simp, by rw [if_neg (out_ne ho (own_learned A))]; exact r.learned, by rw [if_neg (out_ne ho (own_found A))]; exact r.found, fun i l hl => by rw [if_neg (out_ne ho (own_cl hl))]; exact r.cl i l hl, fun i l hl => by rw [if_neg (out_ne ho (own_row hl))]; exact r.row i l hl⟩⟩ }
/-- the field found is bound to a list of the outside -/
theorem bind_found (h : SolAt H x A D) {b : Addr} {vs : List Bool} (hb : H b = some (.list (vs.map vb))) (ho : ¬ Own A b) : SolAt (H.set A.d (.attrs (sfs { A with found := b } D))) x { A with found := b } { D with found := vs } := by
  obtain ⟨ρ, r⟩ := h.role
  have ne : ∀ {b : Addr} {vs : List Value}, H b = some (.list vs) → b ≠ A.d := fun hb e => h.d_ne hb e.symm
  have hx : x ≠ A.d := fun e => by have := h.inst; rw [e, h.dict] at this; cases this
  have ht : ∀ {b : Addr} {vs : List Value}, H b = some (.tuple vs) → b ≠ A.d := fun hb e => by rw [e, h.dict] at hb; cases hb
  exact
   { inst := (AHeap.set_ne _ _ hx).trans h.inst
     dict := AHeap.set_same ..
     vals := (AHeap.set_ne _ _ (ne h.vals)).trans h.vals
     levs := (AHeap.set_ne _ _ (ne h.levs)).trans h.levs
     reas := (AHeap.set_ne _ _ (ne h.reas)).trans h.reas
     phas := (AHeap.set_ne _ _ (ne h.phas)).trans h.phas
     acts := (AHeap.set_ne _ _ (ne h.acts)).trans h.acts
     trail := (AHeap.set_ne _ _ (ne h.trail)).trans h.trail
     lims := (AHeap.set_ne _ _ (ne h.lims)).trans h.lims
     cls := (AHeap.set_ne _ _ (ne h.cls)).trans h.cls
     wat := (AHeap.set_ne _ _ (ne h.wat)).trans h.wat
     learned := (AHeap.set_ne _ _ (ne h.learned)).trans h.learned
     found := (AHeap.set_ne _ _ (ne hb)).trans hb
     cl := fun i l c hl hc => (AHeap.set_ne _ _ (ne (h.cl i l c hl hc))).trans (h.cl i l c hl hc)
     cllen := h.cllen
     row := fun i l c hl hc => (AHeap.set_ne _ _ (ne (h.row i l c hl hc))).trans (h.row i l c hl hc)
     rowlen := h.rowlen
     lrn := fun i l c hl hc => (AHeap.set_ne _ _ (ht (h.lrn i l c hl hc))).trans (h.lrn i l c hl hc)
     lrnlen := h.lrnlen
     role := ⟨fun z => if z = b then 11 else ρ z, ⟨by rw [if_neg (out_ne ho (own_cls A))]; exact r.cls, by rw [if_neg (out_ne ho (own_wat A))]; exact r.wat, by rw [if_neg (out_ne ho (own_vals A))]; exact r.vals, by rw [if_neg (out_ne ho (own_levs A))]; exact r.levs, by rw [if_neg (out_ne ho (own_reas A))]; exact r.reas, by rw [if_neg (out_ne ho (own_phas A))]; exact r.phas, by rw [if_neg (out_ne ho (own_acts A))]; exact r.acts, by rw [if_neg (out_ne ho (own_trail A))]; exact r.trail, by rw [if_neg (out_ne ho (own_lims A))]; exact r.lims, by rw [if_neg (out_ne ho (own_learned A))]; exact r.learned, by simp, fun i l hl => by rw [if_neg (out_ne ho (own_cl hl))]; exact r.cl i l hl, fun i l hl => by rw [if_neg (out_ne ho (own_row hl))]; exact r.row i l hl⟩⟩ }
theorem ext_bind {A' : Ad} {b : Addr} {c : Cell} (h : ∀ z, Own A' z → Own A z ∨ z = b) (hn : Own A A.d) : ∀ z c', H z = some c' → ¬ Own A z → z ≠ b → (H.set A.d c) z = some c' ∧ ¬ Own A' z :=
  fun z c' hz ho hb => ⟨by rw [AHeap.set_ne _ _ (fun e : z = A.d => ho (e ▸ hn))]; exact hz, fun q => (h z q).elim ho hb⟩
/-- a row is another list -/
theorem bind_row (h : SolAt H x A D) {j : Nat} {b : Addr} {r' : List Nat} (hj : j < A.row.length) (hb : H b = some (.list (r'.map vn))) (ho : ¬ Own A b) :
    SolAt (H.set A.wat (.list ((A.row.set j b).map .ref))) x { A with row := A.row.set j b } { D with wat := D.wat.set j r' } := by
  obtain ⟨ρ, r⟩ := h.role
  have ne : ∀ b, ρ b ≠ 2 → b ≠ A.wat := fun b hb e => hb (e ▸ r.wat)
  have hbw : b ≠ A.wat := fun e => ho (e ▸ own_wat A)
  exact
   { inst := (AHeap.set_ne _ _ (h.x_ne h.wat)).trans h.inst
     dict := (AHeap.set_ne _ _ (h.d_ne h.wat)).trans h.dict
     vals := (AHeap.set_ne _ _ (ne _ (by rw [r.vals]; decide))).trans h.vals
     levs := (AHeap.set_ne _ _ (ne _ (by rw [r.levs]; decide))).trans h.levs
     reas := (AHeap.set_ne _ _ (ne _ (by rw [r.reas]; decide))).trans h.reas
     phas := (AHeap.set_ne _ _ (ne _ (by rw [r.phas]; decide))).trans h.phas
     acts := (AHeap.set_ne _ _ (ne _ (by rw [r.acts]; decide))).trans h.acts
     trail := (AHeap.set_ne _ _ (ne _ (by rw [r.trail]; decide))).trans h.trail
     lims := (AHeap.set_ne _ _ (ne _ (by rw [r.lims]; decide))).trans h.lims
     cls := (AHeap.set_ne _ _ (ne _ (by rw [r.cls]; decide))).trans h.cls
     wat := AHeap.set_same ..
     learned := (AHeap.set_ne _ _ (ne _ (by rw [r.learned]; decide))).trans h.learned
     found := (AHeap.set_ne _ _ (ne _ (by rw [r.found]; decide))).trans h.found
     cl := fun i l c hl hc => (AHeap.set_ne _ _ (ne _ (by rw [r.cl i l hl]; (first | lia | omega)))).trans (h.cl i l c hl hc)
     cllen := h.cllen
     row := fun i l c hl hc => by
       dsimp only at hl hc
       by_cases e : i = j
       · subst e
         rw [List.getElem?_set_self hj] at hl; cases hl
         rw [List.getElem?_set_self (by have := h.rowlen; (first | lia | omega))] at hc; cases hc
         exact (AHeap.set_ne _ _ hbw).trans hb
       · rw [List.getElem?_set_ne (Ne.symm e)] at hl hc
         exact (AHeap.set_ne _ _ (ne _ (by rw [r.row i l hl]; (first | lia | omega)))).trans (h.row i l c hl hc)
     rowlen := by simp [h.rowlen]
     lrn := fun i l c hl hc => (AHeap.set_ne _ _ (h.t_ne h.wat (h.lrn i l c hl hc))).trans (h.lrn i l c hl hc)
     lrnlen := h.lrnlen
     role := ⟨fun z => if z = b then 13 + 2 * j else ρ z, ⟨by rw [if_neg (out_ne ho (own_cls A))]; exact r.cls, by rw [if_neg (out_ne ho (own_wat A))]; exact r.wat, by rw [if_neg (out_ne ho (own_vals A))]; exact r.vals, by rw [if_neg (out_ne ho (own_levs A))]; exact r.levs, by rw [if_neg (out_ne ho (own_reas A))]; exact r.reas, by rw [if_neg (out_ne ho (own_phas A))]; exact r.phas, by rw [if_neg (out_ne ho (own_acts A))]; exact r.acts, by rw [if_neg (out_ne ho (own_trail A))]; exact r.trail, by rw [if_neg (out_ne ho (own_lims A))]; exact r.lims, by rw [if_neg (out_ne ho (own_learned A))]; exact r.learned, by rw [if_neg (out_ne ho (own_found A))]; exact r.found, fun i l hl => by rw [if_neg (out_ne ho (own_cl hl))]; exact r.cl i l hl, fun i l hl => by
       dsimp only at hl
       by_cases e : i = j
       · subst e
         rw [List.getElem?_set_self hj] at hl; cases hl; simp
       · rw [List.getElem?_set_ne (Ne.symm e)] at hl
         rw [if_neg (out_ne ho (own_row hl))]; exact r.row i l hl⟩⟩ }
/-- a further clause -/
theorem add_cl (h : SolAt H x A D) {b : Addr} {c' : List Int} (hb : H b = some (.list (c'.map vi))) (ho : ¬ Own A b) :
    SolAt (H.set A.cls (.list ((A.cl ++ [b]).map .ref))) x { A with cl := A.cl ++ [b] } { D with cls := D.cls ++ [c'] } := by
  obtain ⟨ρ, r⟩ := h.role
  have ne : ∀ b, ρ b ≠ 1 → b ≠ A.cls := fun b hb e => hb (e ▸ r.cls)
  have hbw : b ≠ A.cls := fun e => ho (e ▸ own_cls A)
  exact
   { inst := (AHeap.set_ne _ _ (h.x_ne h.cls)).trans h.inst
     dict := (AHeap.set_ne _ _ (h.d_ne h.cls)).trans h.dict
     vals := (AHeap.set_ne _ _ (ne _ (by rw [r.vals]; decide))).trans h.vals
     levs := (AHeap.set_ne _ _ (ne _ (by rw [r.levs]; decide))).trans h.levs
     reas := (AHeap.set_ne _ _ (ne _ (by rw [r.reas]; decide))).trans h.reas
     phas := (AHeap.set_ne _ _ (ne _ (by rw [r.phas]; decide))).trans h.phas
     acts := (AHeap.set_ne _ _ (ne _ (by rw [r.acts]; decide))).trans h.acts
     trail := (AHeap.set_ne _ _ (ne _ (by rw [r.trail]; decide))).trans h.trail
     lims := (AHeap.set_ne _ _ (ne _ (by rw [r.lims]; decide))).trans h.lims
     cls := AHeap.set_same ..
     wat := (AHeap.set_ne _ _ (ne _ (by rw [r.wat]; decide))).trans h.wat
     learned := (AHeap.set_ne _ _ (ne _ (by rw [r.learned]; decide))).trans h.learned
     found := (AHeap.set_ne _ _ (ne _ (by rw [r.found]; decide))).trans h.found
     cl := fun i l c hl hc => by
       dsimp only at hl hc
       rw [List.getElem?_append] at hl hc
       have hlen := h.cllen
       split at hl
       · rename_i q
         rw [if_pos (by (first | lia | omega))] at hc
         exact (AHeap.set_ne _ _ (ne _ (by rw [r.cl i l hl]; (first | lia | omega)))).trans (h.cl i l c hl hc)
       · rename_i q
         rw [if_neg (by (first | lia | omega))] at hc
         obtain ⟨h1, rfl⟩ := single_get hl
         rw [hlen] at h1
         rw [h1] at hc
         simp at hc
         subst hc
         exact (AHeap.set_ne _ _ hbw).trans hb
     cllen := by simp [h.cllen]
     row := fun i l c hl hc => (AHeap.set_ne _ _ (ne _ (by rw [r.row i l hl]; (first | lia | omega)))).trans (h.row i l c hl hc)
     rowlen := h.rowlen
     lrn := fun i l c hl hc => (AHeap.set_ne _ _ (h.t_ne h.cls (h.lrn i l c hl hc))).trans (h.lrn i l c hl hc)
     lrnlen := h.lrnlen
     role := ⟨fun z => if z = b then 12 + 2 * A.cl.length else ρ z, ⟨by rw [if_neg (out_ne ho (own_cls A))]; exact r.cls, by rw [if_neg (out_ne ho (own_wat A))]; exact r.wat, by rw [if_neg (out_ne ho (own_vals A))]; exact r.vals, by rw [if_neg (out_ne ho (own_levs A))]; exact r.levs, by rw [if_neg (out_ne ho (own_reas A))]; exact r.reas, by rw [if_neg (out_ne ho (own_phas A))]; exact r.phas, by rw [if_neg (out_ne ho (own_acts A))]; exact r.acts, by rw [if_neg (out_ne ho (own_trail A))]; exact r.trail, by rw [if_neg (out_ne ho (own_lims A))]; exact r.lims, by rw [if_neg (out_ne ho (own_learned A))]; exact r.learned, by rw [if_neg (out_ne ho (own_found A))]; exact r.found, fun i l hl => by
       dsimp only at hl
       rw [List.getElem?_append] at hl
       split at hl
       · rw [if_neg (out_ne ho (own_cl hl))]; exact r.cl i l hl
       · obtain ⟨h1, rfl⟩ := single_get hl
         rw [if_pos rfl]; (first | lia | omega), fun i l hl => by rw [if_neg (out_ne ho (own_row hl))]; exact r.row i l hl⟩⟩ }
/-- a further learned clause -/
theorem add_lrn (h : SolAt H x A D) {b : Addr} {c' : List Int} (hb : H b = some (.tuple (c'.map vi))) :
    SolAt (H.set A.learned (.list ((A.lrn ++ [b]).map .ref))) x { A with lrn := A.lrn ++ [b] } { D with learned := D.learned ++ [c'] } := by
  obtain ⟨ρ, r⟩ := h.role
  have ne : ∀ b, ρ b ≠ 10 → b ≠ A.learned := fun b hb e => hb (e ▸ r.learned)
  have hbw : b ≠ A.learned := h.t_ne h.learned hb
  exact
   { inst := (AHeap.set_ne _ _ (h.x_ne h.learned)).trans h.inst
     dict := (AHeap.set_ne _ _ (h.d_ne h.learned)).trans h.dict
     vals := (AHeap.set_ne _ _ (ne _ (by rw [r.vals]; decide))).trans h.vals
     levs := (AHeap.set_ne _ _ (ne _ (by rw [r.levs]; decide))).trans h.levs
     reas := (AHeap.set_ne _ _ (ne _ (by rw [r.reas]; decide))).trans h.reas
     phas := (AHeap.set_ne _ _ (ne _ (by rw [r.phas]; decide))).trans h.phas
     acts := (AHeap.set_ne _ _ (ne _ (by rw [r.acts]; decide))).trans h.acts
     trail := (AHeap.set_ne _ _ (ne _ (by rw [r.trail]; decide))).trans h.trail
     lims := (AHeap.set_ne _ _ (ne _ (by rw [r.lims]; decide))).trans h.lims
     cls := (AHeap.set_ne _ _ (ne _ (by rw [r.cls]; decide))).trans h.cls
     wat := (AHeap.set_ne _ _ (ne _ (by rw [r.wat]; decide))).trans h.wat
     learned := AHeap.set_same ..
     found := (AHeap.set_ne _ _ (ne _ (by rw [r.found]; decide))).trans h.found
     cl := fun i l c hl hc => (AHeap.set_ne _ _ (ne _ (by rw [r.cl i l hl]; (first | lia | omega)))).trans (h.cl i l c hl hc)
     cllen := h.cllen
     row := fun i l c hl hc => (AHeap.set_ne _ _ (ne _ (by rw [r.row i l hl]; (first | lia | omega)))).trans (h.row i l c hl hc)
     rowlen := h.rowlen
     lrn := fun i l c hl hc => by
       dsimp only at hl hc
       rw [List.getElem?_append] at hl hc
       have hlen := h.lrnlen
       split at hl
       · rename_i q
         rw [if_pos (by (first | lia | omega))] at hc
         exact (AHeap.set_ne _ _ (h.t_ne h.learned (h.lrn i l c hl hc))).trans (h.lrn i l c hl hc)
       · rename_i q
         rw [if_neg (by (first | lia | omega))] at hc
         obtain ⟨h1, rfl⟩ := single_get hl
         rw [hlen] at h1
         rw [h1] at hc
         simp at hc
         subst hc
         exact (AHeap.set_ne _ _ hbw).trans hb
     lrnlen := by simp [h.lrnlen]
     role := ⟨ρ, ⟨r.cls, r.wat, r.vals, r.levs, r.reas, r.phas, r.acts, r.trail, r.lims, r.learned, r.found, r.cl, r.row⟩⟩ }
/-- what lies beside may come and go -/
theorem frame (h : SolAt H x A D) {H' : AHeap} (hx : H' x = H x) (ho : ∀ b, Own A b → H' b = H b) (ht : ∀ b ∈ A.lrn, H' b = H b) : SolAt H' x A D :=
   { inst := hx.trans h.inst
     dict := (ho _ (own_d A)).trans h.dict
     vals := (ho _ (own_vals A)).trans h.vals
     levs := (ho _ (own_levs A)).trans h.levs
     reas := (ho _ (own_reas A)).trans h.reas
     phas := (ho _ (own_phas A)).trans h.phas
     acts := (ho _ (own_acts A)).trans h.acts
     trail := (ho _ (own_trail A)).trans h.trail
     lims := (ho _ (own_lims A)).trans h.lims
     cls := (ho _ (own_cls A)).trans h.cls
     wat := (ho _ (own_wat A)).trans h.wat
     learned := (ho _ (own_learned A)).trans h.learned
     found := (ho _ (own_found A)).trans h.found
     cl := fun i l c hl hc => (ho _ (own_cl hl)).trans (h.cl i l c hl hc)
     cllen := h.cllen
     row := fun i l c hl hc => (ho _ (own_row hl)).trans (h.row i l c hl hc)
     rowlen := h.rowlen
     lrn := fun i l c hl hc => (ht _ (List.mem_of_getElem? hl)).trans (h.lrn i l c hl hc)
     lrnlen := h.lrnlen
     role := h.role }
theorem own_some (h : SolAt H x A D) {b : Addr} (hb : Own A b) : ∃ c, H b = some c := by
  rcases h.list_own hb with e | ⟨vs, e⟩
  · exact ⟨_, by rw [e]; exact h.dict⟩
  · exact ⟨_, e⟩
theorem fresh_own (h : SolAt H x A D) {b : Addr} (hb : H b = none) : ¬ Own A b := fun ho => by obtain ⟨c, hc⟩ := h.own_some ho; rw [hb] at hc; cases hc
/-- a new cell beside -/
theorem beside (h : SolAt H x A D) {b : Addr} {c : Cell} (hb : H b = none) : SolAt (H.set b c) x A D :=
  h.frame (AHeap.set_ne _ _ fun e => by rw [← e, h.inst] at hb; cases hb) (fun z hz => AHeap.set_ne _ _ fun e => h.fresh_own hb (e ▸ hz)) fun z hz => AHeap.set_ne _ _ fun e => by
    obtain ⟨i, hi⟩ := List.getElem?_of_mem hz
    obtain ⟨_, _, hc⟩ := h.lrnOf hi
    rw [e, hb] at hc; cases hc
/-- an outside list turns -/
theorem aside (h : SolAt H x A D) {b : Addr} {c : Cell} {vs : List Value} (hl : H b = some (.list vs)) (hb : ¬ Own A b) : SolAt (H.set b c) x A D :=
  h.frame (AHeap.set_ne _ _ (h.x_ne hl)) (fun z hz => AHeap.set_ne _ _ fun e => hb (e ▸ hz)) fun z hz => AHeap.set_ne _ _ fun e => by
    obtain ⟨i, hi⟩ := List.getElem?_of_mem hz
    obtain ⟨_, _, hc⟩ := h.lrnOf hi
    rw [e, hl] at hc; cases hc
end SolAt

/-! ### fields read and stored -/
section
variable {a : Amb hd.heap_39} {A' : Around} {L : Addr} {m : Loc} {H : AHeap} {Q : Value → AHeap → Prop} {x : Addr} {A : Ad} {D : Dat}
theorem a_count (h : SolAt H x A D) (q : Q (vn D.n) H) : O1 a A' L m (fun o => getAttr o (Str.ofString "count") true) (.ref x) H Q := o_attr (f_count _) h.inst h.dict rfl (by intro i e; cases e) q
theorem a_clauses (h : SolAt H x A D) (q : Q (.ref A.cls) H) : O1 a A' L m (fun o => getAttr o (Str.ofString "clauses") true) (.ref x) H Q := o_attr (f_clauses _) h.inst h.dict rfl (by intro i e; cases e) q
theorem a_watches (h : SolAt H x A D) (q : Q (.ref A.wat) H) : O1 a A' L m (fun o => getAttr o (Str.ofString "watches") true) (.ref x) H Q := o_attr (f_watches _) h.inst h.dict rfl (by intro i e; cases e) q
theorem a_values (h : SolAt H x A D) (q : Q (.ref A.vals) H) : O1 a A' L m (fun o => getAttr o (Str.ofString "values") true) (.ref x) H Q := o_attr (f_values _) h.inst h.dict rfl (by intro i e; cases e) q
theorem a_levels (h : SolAt H x A D) (q : Q (.ref A.levs) H) : O1 a A' L m (fun o => getAttr o (Str.ofString "levels") true) (.ref x) H Q := o_attr (f_levels _) h.inst h.dict rfl (by intro i e; cases e) q
theorem a_reasons (h : SolAt H x A D) (q : Q (.ref A.reas) H) : O1 a A' L m (fun o => getAttr o (Str.ofString "reasons") true) (.ref x) H Q := o_attr (f_reasons _) h.inst h.dict rfl (by intro i e; cases e) q
theorem a_phases (h : SolAt H x A D) (q : Q (.ref A.phas) H) : O1 a A' L m (fun o => getAttr o (Str.ofString "phases") true) (.ref x) H Q := o_attr (f_phases _) h.inst h.dict rfl (by intro i e; cases e) q
theorem a_activity (h : SolAt H x A D) (q : Q (.ref A.acts) H) : O1 a A' L m (fun o => getAttr o (Str.ofString "activity") true) (.ref x) H Q := o_attr (f_activity _) h.inst h.dict rfl (by intro i e; cases e) q
theorem a_step (h : SolAt H x A D) (q : Q (vi D.step) H) : O1 a A' L m (fun o => getAttr o (Str.ofString "step") true) (.ref x) H Q := o_attr (f_step _) h.inst h.dict rfl (by intro i e; cases e) q
theorem a_trail (h : SolAt H x A D) (q : Q (.ref A.trail) H) : O1 a A' L m (fun o => getAttr o (Str.ofString "trail") true) (.ref x) H Q := o_attr (f_trail _) h.inst h.dict rfl (by intro i e; cases e) q
theorem a_limits (h : SolAt H x A D) (q : Q (.ref A.lims) H) : O1 a A' L m (fun o => getAttr o (Str.ofString "limits") true) (.ref x) H Q := o_attr (f_limits _) h.inst h.dict rfl (by intro i e; cases e) q
theorem a_head (h : SolAt H x A D) (q : Q (vn D.head) H) : O1 a A' L m (fun o => getAttr o (Str.ofString "head") true) (.ref x) H Q := o_attr (f_head _) h.inst h.dict rfl (by intro i e; cases e) q
theorem a_learned (h : SolAt H x A D) (q : Q (.ref A.learned) H) : O1 a A' L m (fun o => getAttr o (Str.ofString "learned") true) (.ref x) H Q := o_attr (f_learned _) h.inst h.dict rfl (by intro i e; cases e) q
theorem a_refuted (h : SolAt H x A D) (q : Q (vb D.refuted) H) : O1 a A' L m (fun o => getAttr o (Str.ofString "refuted") true) (.ref x) H Q := o_attr (f_refuted _) h.inst h.dict rfl (by intro i e; cases e) q
theorem a_found (h : SolAt H x A D) (q : Q (.ref A.found) H) : O1 a A' L m (fun o => getAttr o (Str.ofString "found") true) (.ref x) H Q := o_attr (f_found _) h.inst h.dict rfl (by intro i e; cases e) q
theorem p_step (k : Int) : putF (Str.ofString "step") (vi k) (sfs A D) = sfs A { D with step := k } := by rfl
theorem w_step {o v : Value} (k : Int) {QU : Loc → AHeap → Prop} (h : SolAt H x A D) (ho : er o = .ref x) (hv : er v = vi k) (q : QU m (H.set A.d (.attrs (sfs A { D with step := k })))) : JU a A' L m (setAttr o (Str.ofString "step") v) H QU := u_setAttr (t_step _) h.inst h.dict (show 15 < 500 by decide) ho hv (by rw [p_step]; exact q)
theorem p_head (k : Nat) : putF (Str.ofString "head") (vn k) (sfs A D) = sfs A { D with head := k } := by rfl
theorem w_head {o v : Value} (k : Nat) {QU : Loc → AHeap → Prop} (h : SolAt H x A D) (ho : er o = .ref x) (hv : er v = vn k) (q : QU m (H.set A.d (.attrs (sfs A { D with head := k })))) : JU a A' L m (setAttr o (Str.ofString "head") v) H QU := u_setAttr (t_head _) h.inst h.dict (show 15 < 500 by decide) ho hv (by rw [p_head]; exact q)
theorem p_refuted (k : Bool) : putF (Str.ofString "refuted") (vb k) (sfs A D) = sfs A { D with refuted := k } := by rfl
theorem w_refuted {o v : Value} (k : Bool) {QU : Loc → AHeap → Prop} (h : SolAt H x A D) (ho : er o = .ref x) (hv : er v = vb k) (q : QU m (H.set A.d (.attrs (sfs A { D with refuted := k })))) : JU a A' L m (setAttr o (Str.ofString "refuted") v) H QU := u_setAttr (t_refuted _) h.inst h.dict (show 15 < 500 by decide) ho hv (by rw [p_refuted]; exact q)
theorem p_limits (k : Addr) : putF (Str.ofString "limits") (.ref k) (sfs A D) = sfs { A with lims := k } D := by rfl
theorem w_limits {o v : Value} (k : Addr) {QU : Loc → AHeap → Prop} (h : SolAt H x A D) (ho : er o = .ref x) (hv : er v = .ref k) (q : QU m (H.set A.d (.attrs (sfs { A with lims := k } D)))) : JU a A' L m (setAttr o (Str.ofString "limits") v) H QU := u_setAttr (t_limits _) h.inst h.dict (show 15 < 500 by decide) ho hv (by rw [p_limits]; exact q)
theorem p_found (k : Addr) : putF (Str.ofString "found") (.ref k) (sfs A D) = sfs { A with found := k } D := by rfl
theorem w_found {o v : Value} (k : Addr) {QU : Loc → AHeap → Prop} (h : SolAt H x A D) (ho : er o = .ref x) (hv : er v = .ref k) (q : QU m (H.set A.d (.attrs (sfs { A with found := k } D)))) : JU a A' L m (setAttr o (Str.ofString "found") v) H QU := u_setAttr (t_found _) h.inst h.dict (show 15 < 500 by decide) ho hv (by rw [p_found]; exact q)
end
end
-- W0
section
def noStar : Expr → Bool
  | .Starred .. => false
  | _ => true
theorem star_of {es : List Expr} (h : es.all noStar = true) {env : Env} : ∀ e ∈ es, ∀ rest, starEach (e :: rest) env = (false, eval e env) :: starEach rest env := by
  intro e he rest
  have := List.all_eq_true.mp h e he
  cases e <;> first | rfl | cases this
theorem ite_b {b : Bool} {P Q : Prop} (h1 : b = true → P) (h2 : b = false → Q) : if b = true then P else Q := by
  cases b
  · simp only [Bool.false_eq_true, if_false]; exact h2 rfl
  · simp only [if_true]; exact h1 rfl
theorem ift {P Q : Prop} (h : P) : if true = true then P else Q := by simpa using h
theorem iff_ {P Q : Prop} (h : Q) : if false = true then P else Q := by simpa using h
theorem ite_d {p : Prop} [Decidable p] {P Q : Prop} (h1 : p → P) (h2 : ¬ p → Q) : if decide p = true then P else Q :=
  ite_b (fun h => h1 (of_decide_eq_true h)) (fun h => h2 (of_decide_eq_false h))
theorem ite_e {i j : Int} {P Q : Prop} (h1 : i = j → P) (h2 : i ≠ j → Q) : if (i == j) = true then P else Q :=
  ite_b (fun h => h1 (by simpa using h)) (fun h => h2 (by simpa using h))
theorem ite_n {i j : Int} {P Q : Prop} (h1 : i ≠ j → P) (h2 : i = j → Q) : if (i != j) = true then P else Q :=
  ite_b (fun h => h1 (by simpa using h)) (fun h => h2 (by simpa using h))
section
variable {KF : Params → Frag} {a : Amb KF} {A : Around} {L : Addr} {m : Loc} {H : AHeap} {env : Env} {Q : Value → AHeap → Prop}
theorem e_gint {x : Str} {pos : Pos} {i : Int} {t : Tok} (hk : env.scope.kind = .function) (hx : env.kindOf x = some .globalImplicit) (hd : (x == ("__debug__" : Str)) = false) (hg : env.globals = mainGlobals)
    (e : nsIn (KF a.w.params) mainGlobals x = some (some (.int i t))) (h : Q (vi i) H) : JE a A L m (eval (.Name x pos) env) H Q := e_global hk hx hd hg e h
theorem e_callg {x : Str} {p pos : Pos} {args : List Expr} {f : Addr} (hst : args.all noStar = true) (hk : env.scope.kind = .function) (hx : env.kindOf x = some .globalImplicit) (hd : (x == ("__debug__" : Str)) = false) (hg : env.globals = mainGlobals)
    (e : nsIn (KF a.w.params) mainGlobals x = some (some (.ref f))) (k : keepIn (KF a.w.params) (.ref f) = true) (h : JX a A L m pos args env H (fun vs H₂ => OC a A L m (.ref f) vs H₂ Q)) : JE a A L m (eval (.Call (.Name x p) args [] pos) env) H Q :=
  e_call (star_of hst) (e_global hk hx hd hg e ⟨.inr (.inr ⟨f, rfl, k⟩), h⟩)
theorem e_callb {x : Str} {p pos : Pos} {args : List Expr} {n : String} (hst : args.all noStar = true) (hk : env.scope.kind = .function) (hx : env.kindOf x = some .globalImplicit) (hd : (x == ("__debug__" : Str)) = false) (hg : env.globals = mainGlobals) (hb : env.builtins = builtinsNs)
    (e : nsIn (KF a.w.params) mainGlobals x = some none) (hv : bootBuiltins x = some (.builtin n)) (hn : x ≠ ("__name__" : Str)) (h : JX a A L m pos args env H (fun vs H₂ => OC a A L m (.builtin n) vs H₂ Q)) : JE a A L m (eval (.Call (.Name x p) args [] pos) env) H Q :=
  e_call (star_of hst) (e_builtin hk hx hd hg hb e hv hn ⟨.inl ⟨n, rfl⟩, h⟩)
theorem e_callt {x : Str} {p pos : Pos} {args : List Expr} {n : String} (hst : args.all noStar = true) (hk : env.scope.kind = .function) (hx : env.kindOf x = some .globalImplicit) (hd : (x == ("__debug__" : Str)) = false) (hg : env.globals = mainGlobals) (hb : env.builtins = builtinsNs)
    (e : nsIn (KF a.w.params) mainGlobals x = some none) (hv : bootBuiltins x = some (.type n)) (hn : x ≠ ("__name__" : Str)) (h : JX a A L m pos args env H (fun vs H₂ => OC a A L m (.type n) vs H₂ Q)) : JE a A L m (eval (.Call (.Name x p) args [] pos) env) H Q :=
  e_call (star_of hst) (e_builtin hk hx hd hg hb e hv hn ⟨.inr (.inl ⟨n, rfl⟩), h⟩)
end
theorem boot_len : bootBuiltins (Str.ofString "len") = some (.builtin "len") := by decide +kernel
theorem boot_abs : bootBuiltins (Str.ofString "abs") = some (.builtin "abs") := by decide +kernel
theorem boot_sum : bootBuiltins (Str.ofString "sum") = some (.builtin "sum") := by decide +kernel
theorem boot_range : bootBuiltins (Str.ofString "range") = some (.type "range") := by decide +kernel
theorem boot_tuple : bootBuiltins (Str.ofString "tuple") = some (.type "tuple") := by decide +kernel
theorem boot_list : bootBuiltins (Str.ofString "list") = some (.type "list") := by decide +kernel
theorem nn_len : (Str.ofString "len") ≠ ("__name__" : Str) := by decide
theorem nn_abs : (Str.ofString "abs") ≠ ("__name__" : Str) := by decide
theorem nn_sum : (Str.ofString "sum") ≠ ("__name__" : Str) := by decide
theorem nn_range : (Str.ofString "range") ≠ ("__name__" : Str) := by decide
theorem nn_tuple : (Str.ofString "tuple") ≠ ("__name__" : Str) := by decide
theorem nn_list : (Str.ofString "list") ≠ ("__name__" : Str) := by decide

section
variable {a : Amb hd.heap_39} {A₀ : Around} {L : Addr} {m : Loc} {H : AHeap} {env : Env} {Q : Value → AHeap → Prop} {x : Addr} {A : Ad} {D : Dat}
/-- a method of the solver -/
theorem mth {name : Str} {f : Addr} {pos : Pos} {args : List Expr} (k : MethOk (hd.heap_39 a.w.params) 190 name f) (hn : (sfs A D).lookup name = none) (h : SolAt H x A D)
    (q : JX a A₀ L m pos args env H (fun vs H₂ => OC a A₀ L m (.ref f) (.ref x :: vs) H₂ Q)) :
    ∃ x' C d fs f', Value.ref x = .ref x' ∧ H x' = some (.inst C d) ∧ H d = some (.attrs fs) ∧ fs.lookup name = none ∧ plainGet (hd.heap_39 a.w.params) C name = true ∧ findIn (hd.heap_39 a.w.params) (.ref C) name = some (some (.ref f')) ∧ isFn (hd.heap_39 a.w.params) (.ref f') = true ∧ keepIn (hd.heap_39 a.w.params) (.ref f') = true ∧
      JX a A₀ L m pos args env H (fun vs H₂ => OC a A₀ L m (.ref f') (.ref x' :: vs) H₂ Q) :=
  ⟨x, 190, A.d, sfs A D, f, rfl, h.inst, h.dict, hn, k.plain, k.find, k.fn, k.keep, q⟩

def nl : Loc := fun _ => none
theorem c_def1 {f : Addr} {v : Value} {p : Str} {oc : Value} {od : Option Addr} {osl : Array (Option Value)} {name qual : Str} {params : Arguments} {body : List Stmt} {scope : Scope} {dV kV doc pm cdv ct : Value} {an : Option Addr} {KF : Params → Frag} {a : Amb KF}
    (ho : (KF a.w.params).lookup f = some ⟨oc, od, .func (fnOf name qual params body scope dV kV doc pm an cdv ct), osl⟩) (hcd : codeIn (KF a.w.params) cdv qual = true) {d : Nat} (hR : Rm A₀ (d + 1))
    (hb : ∀ v, bindArgs (fnOf name qual params body scope dV kV doc pm an cdv ct) ⟨[v], []⟩ = pure [(p, v)])
    (hloc : scope.names.lookup p = some .local)
    (hrest : (scope.isCoroutine || scope.isGenerator || scope.kind != .function || scope.names.any (fun y => y.2 == .cell)) = false)
    (hbody : ∀ L' A', Rm A' d → JS a A' L' (nl.set p v) (execs body (envOf qual scope L' f cdv)) H (fun fl _ H' => Q (retOf fl) H')) : CA a A₀ L m (.ref f) [v] H Q := by
  simp only [Bool.or_eq_false_iff, bne_eq_false_iff_eq, List.any_eq_false, beq_iff_eq] at hrest
  refine c_def (bs := [(p, v)]) ho hcd hR (fun s vs' _ hv => ?_) (fun y hy => by rw [List.mem_singleton.mp hy]; exact hloc) (fun L' A' R' => ?_) hrest.1.1.1 hrest.1.1.2 hrest.1.2 (fun y hy => hrest.2 y hy)
  · obtain ⟨u, rfl⟩ : ∃ u, vs' = [u] := by rcases vs' with _ | ⟨u, _ | ⟨z, r⟩⟩ <;> simp at hv; exact ⟨_, rfl⟩
    simp only [List.map_cons, List.map_nil, List.cons.injEq, and_true] at hv
    exact ⟨_, BindsTo.of_eq (hb u), by simp only [List.map_cons, List.map_nil, hv]⟩
  · have e : (fun x => ([(p, v)] : List (Str × Value)).reverse.lookup x) = nl.set p v := by
      funext y
      simp only [List.reverse_singleton, List.lookup_cons, List.lookup_nil, Loc.set, nl]
      by_cases h : y = p
      · subst h; simp
      · have : (y == p) = false := by simpa using h
        rw [this, if_neg h]
    rw [e]; exact hbody L' A' R'
theorem c_def2 {f : Addr} {v w : Value} {p q : Str} {oc : Value} {od : Option Addr} {osl : Array (Option Value)} {name qual : Str} {params : Arguments} {body : List Stmt} {scope : Scope} {dV kV doc pm cdv ct : Value} {an : Option Addr} {KF : Params → Frag} {a : Amb KF}
    (ho : (KF a.w.params).lookup f = some ⟨oc, od, .func (fnOf name qual params body scope dV kV doc pm an cdv ct), osl⟩) (hcd : codeIn (KF a.w.params) cdv qual = true) {d : Nat} (hR : Rm A₀ (d + 1))
    (hb : ∀ v w, bindArgs (fnOf name qual params body scope dV kV doc pm an cdv ct) ⟨[v, w], []⟩ = pure [(p, v), (q, w)])
    (hloc : scope.names.lookup p = some .local ∧ scope.names.lookup q = some .local)
    (hrest : (scope.isCoroutine || scope.isGenerator || scope.kind != .function || scope.names.any (fun y => y.2 == .cell)) = false)
    (hbody : ∀ L' A', Rm A' d → JS a A' L' ((nl.set p v).set q w) (execs body (envOf qual scope L' f cdv)) H (fun fl _ H' => Q (retOf fl) H')) : CA a A₀ L m (.ref f) [v, w] H Q := by
  simp only [Bool.or_eq_false_iff, bne_eq_false_iff_eq, List.any_eq_false, beq_iff_eq] at hrest
  refine c_def (bs := [(p, v), (q, w)]) ho hcd hR (fun s vs' _ hv => ?_) (fun y hy => ?_) (fun L' A' R' => ?_) hrest.1.1.1 hrest.1.1.2 hrest.1.2 (fun y hy => hrest.2 y hy)
  · obtain ⟨u, z, rfl⟩ : ∃ u z, vs' = [u, z] := by rcases vs' with _ | ⟨u, _ | ⟨z, _ | ⟨y, r⟩⟩⟩ <;> simp at hv; exact ⟨_, _, rfl⟩
    simp only [List.map_cons, List.map_nil, List.cons.injEq, and_true] at hv
    exact ⟨_, BindsTo.of_eq (hb u z), by simp only [List.map_cons, List.map_nil, hv.1, hv.2]⟩
  · rcases List.mem_cons.mp hy with e | e
    · rw [e]; exact hloc.1
    · rw [List.mem_singleton.mp e]; exact hloc.2
  · have e : (fun x => ([(p, v), (q, w)] : List (Str × Value)).reverse.lookup x) = (nl.set p v).set q w := by
      funext y
      show List.lookup y [(q, w), (p, v)] = _
      simp only [List.lookup_cons, List.lookup_nil, Loc.set, nl]
      by_cases h : y = q
      · subst h; simp
      · have : (y == q) = false := by simpa using h
        rw [this, if_neg h]
        by_cases h : y = p
        · subst h; simp
        · have : (y == p) = false := by simpa using h
          rw [this, if_neg h]
    rw [e]; exact hbody L' A' R'
theorem c_def3 {f : Addr} {v w u : Value} {p q r : Str} {oc : Value} {od : Option Addr} {osl : Array (Option Value)} {name qual : Str} {params : Arguments} {body : List Stmt} {scope : Scope} {dV kV doc pm cdv ct : Value} {an : Option Addr} {KF : Params → Frag} {a : Amb KF}
    (ho : (KF a.w.params).lookup f = some ⟨oc, od, .func (fnOf name qual params body scope dV kV doc pm an cdv ct), osl⟩) (hcd : codeIn (KF a.w.params) cdv qual = true) {d : Nat} (hR : Rm A₀ (d + 1))
    (hb : ∀ v w u, bindArgs (fnOf name qual params body scope dV kV doc pm an cdv ct) ⟨[v, w, u], []⟩ = pure [(p, v), (q, w), (r, u)])
    (hloc : scope.names.lookup p = some .local ∧ scope.names.lookup q = some .local ∧ scope.names.lookup r = some .local)
    (hrest : (scope.isCoroutine || scope.isGenerator || scope.kind != .function || scope.names.any (fun y => y.2 == .cell)) = false)
    (hbody : ∀ L' A', Rm A' d → JS a A' L' (((nl.set p v).set q w).set r u) (execs body (envOf qual scope L' f cdv)) H (fun fl _ H' => Q (retOf fl) H')) : CA a A₀ L m (.ref f) [v, w, u] H Q := by
  simp only [Bool.or_eq_false_iff, bne_eq_false_iff_eq, List.any_eq_false, beq_iff_eq] at hrest
  refine c_def (bs := [(p, v), (q, w), (r, u)]) ho hcd hR (fun s vs' _ hv => ?_) (fun y hy => ?_) (fun L' A' R' => ?_) hrest.1.1.1 hrest.1.1.2 hrest.1.2 (fun y hy => hrest.2 y hy)
  · obtain ⟨a1, a2, a3, rfl⟩ : ∃ a1 a2 a3, vs' = [a1, a2, a3] := by rcases vs' with _ | ⟨u, _ | ⟨z, _ | ⟨y, _ | ⟨y2, r⟩⟩⟩⟩ <;> simp at hv; exact ⟨_, _, _, rfl⟩
    simp only [List.map_cons, List.map_nil, List.cons.injEq, and_true] at hv
    exact ⟨_, BindsTo.of_eq (hb a1 a2 a3), by simp only [List.map_cons, List.map_nil, hv.1, hv.2.1, hv.2.2]⟩
  · rcases List.mem_cons.mp hy with e | e
    · rw [e]; exact hloc.1
    · rcases List.mem_cons.mp e with e | e
      · rw [e]; exact hloc.2.1
      · rw [List.mem_singleton.mp e]; exact hloc.2.2
  · have e : (fun x => ([(p, v), (q, w), (r, u)] : List (Str × Value)).reverse.lookup x) = ((nl.set p v).set q w).set r u := by
      funext y
      show List.lookup y [(r, u), (q, w), (p, v)] = _
      simp only [List.lookup_cons, List.lookup_nil, Loc.set, nl]
      by_cases h : y = r
      · subst h; simp
      · have : (y == r) = false := by simpa using h
        rw [this, if_neg h]
        by_cases h : y = q
        · subst h; simp
        · have : (y == q) = false := by simpa using h
          rw [this, if_neg h]
          by_cases h : y = p
          · subst h; simp
          · have : (y == p) = false := by simpa using h
            rw [this, if_neg h]
    rw [e]; exact hbody L' A' R'
end
end
set_option compiler.extract_closed false
local macro_rules | `(tactic| walk_at "loc") => `(tactic| with_reducible first | assumption | exact Loc.set_same _ _ _ | (refine Loc.skip (by with_unfolding_all decide) ?_; walk_at "loc"))
local macro_rules | `(tactic| walk_at "sol") => `(tactic| with_reducible assumption)
local macro_rules | `(tactic| walk_at "g") => `(tactic| with_reducible first | exact g_slot _ | exact g_luby _ | exact g_plain_clause _ | exact g_law_pick _ | exact g_law_true _ | exact g_law_literal _ | exact g_RESTART_UNIT _ | exact g_ACTIVITY_LIMIT _ | exact g_ACTIVITY_SCALE _ | exact n_len _ | exact n_abs _ | exact n_sum _ | exact n_range _ | exact n_tuple _ | exact n_list _ | exact boot_len | exact boot_abs | exact boot_sum | exact boot_range | exact boot_tuple | exact boot_list | exact nn_len | exact nn_abs | exact nn_sum | exact nn_range | exact nn_tuple | exact nn_list)
local macro_rules | `(tactic| walk_at "k") => `(tactic| with_reducible first | exact k_slot _ | exact k_luby _ | exact k_plain_clause _ | exact k_law_pick _ | exact k_law_true _ | exact k_law_literal _ | exact k_value _ | exact k_level _ | exact k_add _ | exact k_attach _ | exact k_learn _ | exact k_refute _ | exact k_assign _ | exact k_decide _ | exact k_cancel _ | exact k_propagate _ | exact k_still_watched _ | exact k_forces _ | exact k_bump _ | exact k_analyze _ | exact k_ordered _ | exact k_free_variable _ | exact k_assume _ | exact k_solve _ | exact k_leave _ | exact k_model _)
local macro_rules | `(tactic| walk_at "x1") => `(tactic| with_reducible first
  | (show JS _ _ _ _ (execs _ _) _ _; first | refine s_cons ?_ | refine s_nil ?_)
  | (show JS _ _ _ _ (exec _ _) _ _; first | refine s_if ?_ | refine s_return ?_ | refine s_return_none ?_ | refine s_continue ?_ | refine s_assign_name rfl ?_ | refine s_assign_attr rfl ?_ | refine s_assign_sub rfl ?_ | refine s_aug_sub (fun _ _ _ => rfl) ?_ | refine s_expr rfl rfl ?_)
  | (show JB _ _ _ _ (PySem.isTrue _ _ _) _ _; first | refine b_cmp rfl ?_ | refine b_not ?_ | refine b_boolop ?_ | refine b_value rfl ?_)
  | (show JB _ _ _ _ (allTrue _ _ _) _ _; first | refine b_and ?_ | refine b_or ?_ | refine b_and_nil ?_ | refine b_or_nil ?_)
  | (show JE _ _ _ _ (eval (Expr.Name _ _) _) _ _; first | refine e_local rfl rfl rfl (by with_unfolding_all decide) (by walk_at "loc") ?_ | refine e_gint rfl rfl (by with_unfolding_all decide) rfl (by walk_at "g") ?_ | refine e_cell rfl rfl (by with_unfolding_all decide) rfl (by walk_at "sol") ?_)
  | (show JE _ _ _ _ (eval (Expr.Constant _ _ _) _) _ _; first | refine e_int ?_ | refine e_bool ?_ | refine e_none ?_)
  | (show JE _ _ _ _ (eval (Expr.Call (Expr.Name _ _) _ _ _) _) _ _; first | refine e_callg rfl rfl rfl (by with_unfolding_all decide) rfl (by walk_at "g") (by walk_at "k") ?_ | refine e_callb rfl rfl rfl (by with_unfolding_all decide) rfl rfl (by walk_at "g") (by walk_at "g") (by walk_at "g") ?_ | refine e_callt rfl rfl rfl (by with_unfolding_all decide) rfl rfl (by walk_at "g") (by walk_at "g") (by walk_at "g") ?_)
  | (show JE _ _ _ _ (eval (Expr.Call (Expr.Attribute _ _ _) _ _ _) _) _ _; first | refine e_append ⟨rfl, rfl, rfl⟩ rfl ?_ | refine e_pop ⟨rfl, rfl, rfl⟩ ?_ | refine e_bits ⟨rfl, rfl, rfl⟩ ?_ | refine e_meth rfl (star_of rfl) ?_)
  | (show JE _ _ _ _ (eval (Expr.Attribute _ _ _) _) _ _; first | refine e_attr rfl ?_)
  | (show JE _ _ _ _ (eval _ _) _ _; first | refine e_bin ?_ | refine e_un ?_ | refine e_cmp rfl ?_ | refine e_ifexp ?_ | refine e_slice_hi ?_ | refine e_slice_lo ?_ | refine e_sub ?_ | refine e_list ?_ | refine e_tuple ?_)
  | (show JX _ _ _ _ _ _ _ _ _; first | refine x_cons rfl ?_ | refine x_nil ?_)
  | (show O2 _ _ _ _ _ _ _ _ _; first | refine o_lt ?_ | refine o_gt ?_ | refine o_le ?_ | refine o_ge ?_ | refine o_eq ?_ | refine o_ne ?_ | refine o_eqb ?_ | refine o_add ?_ | refine o_iadd ?_ | refine o_sub ?_ | refine o_mul' (by decide) (by decide) ?_)
  | (show O1 _ _ _ _ _ _ _ _; first | refine a_count (by walk_at "sol") ?_ | refine a_clauses (by walk_at "sol") ?_ | refine a_watches (by walk_at "sol") ?_ | refine a_values (by walk_at "sol") ?_ | refine a_levels (by walk_at "sol") ?_ | refine a_reasons (by walk_at "sol") ?_ | refine a_phases (by walk_at "sol") ?_ | refine a_activity (by walk_at "sol") ?_ | refine a_step (by walk_at "sol") ?_ | refine a_trail (by walk_at "sol") ?_ | refine a_limits (by walk_at "sol") ?_ | refine a_head (by walk_at "sol") ?_ | refine a_learned (by walk_at "sol") ?_ | refine a_refuted (by walk_at "sol") ?_ | refine a_found (by walk_at "sol") ?_ | refine o_neg ?_ | refine o_not ?_)
  | (show OC _ _ _ _ (Value.builtin _) _ _ _; first | refine c_abs ?_)
  | (show OT _ _ _ _ _ _ _; first | refine t_bool ?_)
  | (show JU _ _ _ _ _ _ _; first | refine u_name ?_ | refine u_local rfl rfl rfl (by assumption) ?_)
  | (show ∃ _ _ _ _ _, Value.ref _ = _ ∧ _; first | refine mth (by walk_at "k") rfl (by walk_at "sol") ?_)
  | refine ift ?_
  | refine iff_ ?_)
local macro_rules | `(tactic| walk_at "x2") => `(tactic| first | walk_at "x1" | ((with_reducible show ∀ _, er _ = _ → _); intro v' hv'; walk_at "x2"))
local macro_rules | `(tactic| walk_at "xs") => `(tactic| repeat (walk_at "x2"; try dsimp only [onNext, turnEnd, retOf]))
-- W1
section
set_option compiler.extract_closed false
section
variable {a : Amb hd.heap_39} {A₀ : Around} {L : Addr} {m : Loc} {H : AHeap} {Q : Value → AHeap → Prop} {x : Addr} {A : Ad} {D : Dat}
def valI (vals : List Int) (l : Int) : Int := if l < 0 then -(vals.getD (-l).toNat 0) else vals.getD l.toNat 0
theorem getD_get {α : Type} {l : List α} {i : Nat} {d : α} (h : i < l.length) : l[i]? = some (l.getD i d) := by simp [List.getD, h]
theorem map_get {α : Type} {l : List α} {i : Nat} {d : α} {f : α → Value} (h : i < l.length) : (l.map f)[i]? = some (f (l.getD i d)) := by simp [List.getD, h]
theorem o_itemN {α : Type} {v i : Expr} {l : Addr} {vs : List α} {f : α → Value} {k : Nat} (d : α) (hp : PlainSub v i) (h : H l = some (.list (vs.map f))) (hk : k < vs.length) (hs : vs.length < 2 ^ 60) (q : Q (f (vs.getD k d)) H) :
    O2 a A₀ L m (subscriptTail v i) (.ref l) (vi (k : Int)) H Q := o_item hp h (Int.natCast_nonneg _) (map_get (d := d) hk) (by rw [List.length_map]; exact hs) q
theorem o_powN {i : Int} {j : Nat} (h1 : j ≤ 1000000) (h2 : i.natAbs < 2 ^ 64) (q : Q (vi (i ^ j)) H) : O2 a A₀ L m (binaryOp .Pow) (vi i) (vi (j : Int)) H Q := o_pow (Int.natCast_nonneg _) (Int.ofNat_le.mpr h1) h2 q
theorem set_map {α : Type} {l : List α} {i : Nat} {v : α} {f : α → Value} : (l.map f).set i (f v) = (l.set i v).map f := by rw [List.map_set]
def slotI (l : Int) : Int := if l < 0 then 1 - 2 * l else 2 * l
theorem slot_c {l : Int} (hR : Rm A₀ 1) (q : Q (vi (slotI l)) H) : CA a A₀ L m (.ref 28) [vi l] H Q := by
  refine c_def1 (p := Str.ofString "literal") (at_slot _) (cd_slot _) hR (fun _ => by with_unfolding_all rfl) (by decide) (by decide) (fun L' A' R' => ?_)
  walk_at "xs"
  refine ite_d (fun hn => ?_) (fun hn => ?_)
  · walk_at "xs"
    rw [slotI, if_pos hn] at q; exact q
  · walk_at "xs"
    rw [slotI, if_neg hn] at q; exact q
theorem value_c {l : Int} (h : SolAt H x A D) (h1 : l.natAbs < D.vals.length) (h2 : D.vals.length < 100) (hR : Rm A₀ 1) (q : Q (vi (valI D.vals l)) H) : CA a A₀ L m (.ref 54) [.ref x, vi l] H Q := by
  refine c_def2 (p := Str.ofString "self") (q := Str.ofString "literal") (at_value _) (cd_value _) hR (fun _ _ => by with_unfolding_all rfl) (by decide) (by decide) (fun L' A' R' => ?_)
  walk_at "xs"
  refine ite_d (fun hn => ?_) (fun hn => ?_)
  · walk_at "xs"
    refine o_item (fun _ _ => ⟨_, rfl⟩) h.vals (by (first | lia | omega)) (map_get (d := 0) (by (first | lia | omega))) (by simp; (first | lia | omega)) ?_
    walk_at "xs"
    rw [valI, if_pos hn] at q; exact q
  · walk_at "xs"
    refine o_item (fun _ _ => ⟨_, rfl⟩) h.vals (by (first | lia | omega)) (map_get (d := 0) (by (first | lia | omega))) (by simp; (first | lia | omega)) ?_
    walk_at "xs"
    rw [valI, if_neg hn] at q; exact q
theorem level_c (h : SolAt H x A D) (h1 : D.lims.length ≤ 1000) (hR : Rm A₀ 1) (q : Q (vn D.lims.length) H) : CA a A₀ L m (.ref 61) [.ref x] H Q := by
  refine c_def1 (p := Str.ofString "self") (at_level _) (cd_level _) hR (fun _ => by with_unfolding_all rfl) (by decide) (by decide) (fun L' A' R' => ?_)
  walk_at "xs"
  refine c_len_list h.lims (by simp; (first | lia | omega)) ?_
  rw [List.length_map]; exact q
/-- the shape that every walk asks for -/
structure Sz (D : Dat) : Prop where
  n : D.n ≤ 5
  vals : D.vals.length = D.n + 1
  levs : D.levs.length = D.n + 1
  reas : D.reas.length = D.n + 1
  phas : D.phas.length = D.n + 1
  acts : D.acts.length = D.n + 1
  found : D.found.length = D.n + 1
  wat : D.wat.length = 2 * D.n + 2
  lims : D.lims.length ≤ 100
  trail : D.trail.length ≤ 100
  cls : D.cls.length ≤ 2000
  learned : D.learned.length ≤ 2000
  row : ∀ r ∈ D.wat, r.length ≤ 4000
  cl : ∀ c ∈ D.cls, c.length ≤ 100 ∧ 2 ≤ c.length
  lit : ∀ c ∈ D.cls, ∀ l ∈ c, l ≠ 0 ∧ l.natAbs ≤ D.n
theorem u_setI {KF : Params → Frag} {a : Amb KF} {l : Addr} {ns : List Int} {k i : Int} {u y v : Value} {QU : Loc → AHeap → Prop} (hx : er u = .ref l) (hy : er y = vi k) (hv : er v = vi i) (h : H l = some (.list (ns.map vi))) (h0 : 0 ≤ k) (hk : k < ns.length) (hs : ns.length < 2 ^ 60) (q : QU m (H.set l (.list ((ns.set k.toNat i).map vi)))) :
    JU a A₀ L m (setItem u y v) H QU := by
  refine u_setItem hx hy h h0 (by simpa using hk) (by simpa using hs) ?_
  rw [hv, List.map_set] at *; exact q
theorem u_setR {KF : Params → Frag} {a : Amb KF} {l : Addr} {ns : List Addr} {k : Int} {i : Addr} {u y v : Value} {QU : Loc → AHeap → Prop} (hx : er u = .ref l) (hy : er y = vi k) (hv : er v = .ref i) (h : H l = some (.list (ns.map .ref))) (h0 : 0 ≤ k) (hk : k < ns.length) (hs : ns.length < 2 ^ 60) (q : QU m (H.set l (.list ((ns.set k.toNat i).map .ref)))) :
    JU a A₀ L m (setItem u y v) H QU := by
  refine u_setItem hx hy h h0 (by simpa using hk) (by simpa using hs) ?_
  rw [hv, List.map_set] at *; exact q
theorem u_vals {k i : Int} {u y v : Value} {QU : Loc → AHeap → Prop} (h : SolAt H x A D) (hx : er u = .ref A.vals) (hy : er y = vi k) (hv : er v = vi i) (h0 : 0 ≤ k) (hk : k < D.vals.length) (hs : D.vals.length < 2 ^ 60) (q : ∀ H', SolAt H' x A { D with vals := D.vals.set k.toNat i } → Ext A H A H' → QU m H') :
    JU a A₀ L m (setItem u y v) H QU := u_setI hx hy hv h.vals h0 hk hs (q _ (h.set_vals _) (Ext.set (own_vals A)))
theorem r_vals {v i : Expr} {k : Int} (hp : PlainSub v i) (h : SolAt H x A D) (h0 : 0 ≤ k) (hk : k < D.vals.length) (hs : D.vals.length < 2 ^ 60) (q : Q (vi (D.vals.getD k.toNat 0)) H) : O2 a A₀ L m (subscriptTail v i) (.ref A.vals) (vi k) H Q :=
  o_item hp h.vals h0 (map_get (d := 0) (by (first | lia | omega))) (by simpa using hs) q
theorem g_vals_ {k : Int} (h : SolAt H x A D) (h0 : 0 ≤ k) (hk : k < D.vals.length) (hs : D.vals.length < 2 ^ 60) (q : Q (vi (D.vals.getD k.toNat 0)) H) : O2 a A₀ L m getItem (.ref A.vals) (vi k) H Q :=
  o_getItem h.vals h0 (map_get (d := 0) (by (first | lia | omega))) (by simpa using hs) q
theorem u_levs {k i : Int} {u y v : Value} {QU : Loc → AHeap → Prop} (h : SolAt H x A D) (hx : er u = .ref A.levs) (hy : er y = vi k) (hv : er v = vi i) (h0 : 0 ≤ k) (hk : k < D.levs.length) (hs : D.levs.length < 2 ^ 60) (q : ∀ H', SolAt H' x A { D with levs := D.levs.set k.toNat i } → Ext A H A H' → QU m H') :
    JU a A₀ L m (setItem u y v) H QU := u_setI hx hy hv h.levs h0 hk hs (q _ (h.set_levs _) (Ext.set (own_levs A)))
theorem r_levs {v i : Expr} {k : Int} (hp : PlainSub v i) (h : SolAt H x A D) (h0 : 0 ≤ k) (hk : k < D.levs.length) (hs : D.levs.length < 2 ^ 60) (q : Q (vi (D.levs.getD k.toNat 0)) H) : O2 a A₀ L m (subscriptTail v i) (.ref A.levs) (vi k) H Q :=
  o_item hp h.levs h0 (map_get (d := 0) (by (first | lia | omega))) (by simpa using hs) q
theorem r_levsN {v i : Expr} {k : Nat} (hp : PlainSub v i) (h : SolAt H x A D) (hk : k < D.levs.length) (hs : D.levs.length < 2 ^ 60) (q : Q (vi (D.levs.getD k 0)) H) : O2 a A₀ L m (subscriptTail v i) (.ref A.levs) (vi (k : Int)) H Q :=
  r_levs hp h (Int.natCast_nonneg _) (Int.ofNat_lt.mpr hk) hs q
theorem g_levs_ {k : Int} (h : SolAt H x A D) (h0 : 0 ≤ k) (hk : k < D.levs.length) (hs : D.levs.length < 2 ^ 60) (q : Q (vi (D.levs.getD k.toNat 0)) H) : O2 a A₀ L m getItem (.ref A.levs) (vi k) H Q :=
  o_getItem h.levs h0 (map_get (d := 0) (by (first | lia | omega))) (by simpa using hs) q
theorem u_reas {k i : Int} {u y v : Value} {QU : Loc → AHeap → Prop} (h : SolAt H x A D) (hx : er u = .ref A.reas) (hy : er y = vi k) (hv : er v = vi i) (h0 : 0 ≤ k) (hk : k < D.reas.length) (hs : D.reas.length < 2 ^ 60) (q : ∀ H', SolAt H' x A { D with reas := D.reas.set k.toNat i } → Ext A H A H' → QU m H') :
    JU a A₀ L m (setItem u y v) H QU := u_setI hx hy hv h.reas h0 hk hs (q _ (h.set_reas _) (Ext.set (own_reas A)))
theorem r_reas {v i : Expr} {k : Int} (hp : PlainSub v i) (h : SolAt H x A D) (h0 : 0 ≤ k) (hk : k < D.reas.length) (hs : D.reas.length < 2 ^ 60) (q : Q (vi (D.reas.getD k.toNat 0)) H) : O2 a A₀ L m (subscriptTail v i) (.ref A.reas) (vi k) H Q :=
  o_item hp h.reas h0 (map_get (d := 0) (by (first | lia | omega))) (by simpa using hs) q
theorem r_reasN {v i : Expr} {k : Nat} (hp : PlainSub v i) (h : SolAt H x A D) (hk : k < D.reas.length) (hs : D.reas.length < 2 ^ 60) (q : Q (vi (D.reas.getD k 0)) H) : O2 a A₀ L m (subscriptTail v i) (.ref A.reas) (vi (k : Int)) H Q :=
  r_reas hp h (Int.natCast_nonneg _) (Int.ofNat_lt.mpr hk) hs q
theorem g_reas_ {k : Int} (h : SolAt H x A D) (h0 : 0 ≤ k) (hk : k < D.reas.length) (hs : D.reas.length < 2 ^ 60) (q : Q (vi (D.reas.getD k.toNat 0)) H) : O2 a A₀ L m getItem (.ref A.reas) (vi k) H Q :=
  o_getItem h.reas h0 (map_get (d := 0) (by (first | lia | omega))) (by simpa using hs) q
theorem u_phas {k i : Int} {u y v : Value} {QU : Loc → AHeap → Prop} (h : SolAt H x A D) (hx : er u = .ref A.phas) (hy : er y = vi k) (hv : er v = vi i) (h0 : 0 ≤ k) (hk : k < D.phas.length) (hs : D.phas.length < 2 ^ 60) (q : ∀ H', SolAt H' x A { D with phas := D.phas.set k.toNat i } → Ext A H A H' → QU m H') :
    JU a A₀ L m (setItem u y v) H QU := u_setI hx hy hv h.phas h0 hk hs (q _ (h.set_phas _) (Ext.set (own_phas A)))
theorem r_phas {v i : Expr} {k : Int} (hp : PlainSub v i) (h : SolAt H x A D) (h0 : 0 ≤ k) (hk : k < D.phas.length) (hs : D.phas.length < 2 ^ 60) (q : Q (vi (D.phas.getD k.toNat 0)) H) : O2 a A₀ L m (subscriptTail v i) (.ref A.phas) (vi k) H Q :=
  o_item hp h.phas h0 (map_get (d := 0) (by (first | lia | omega))) (by simpa using hs) q
theorem r_phasN {v i : Expr} {k : Nat} (hp : PlainSub v i) (h : SolAt H x A D) (hk : k < D.phas.length) (hs : D.phas.length < 2 ^ 60) (q : Q (vi (D.phas.getD k 0)) H) : O2 a A₀ L m (subscriptTail v i) (.ref A.phas) (vi (k : Int)) H Q :=
  r_phas hp h (Int.natCast_nonneg _) (Int.ofNat_lt.mpr hk) hs q
theorem g_phas_ {k : Int} (h : SolAt H x A D) (h0 : 0 ≤ k) (hk : k < D.phas.length) (hs : D.phas.length < 2 ^ 60) (q : Q (vi (D.phas.getD k.toNat 0)) H) : O2 a A₀ L m getItem (.ref A.phas) (vi k) H Q :=
  o_getItem h.phas h0 (map_get (d := 0) (by (first | lia | omega))) (by simpa using hs) q
theorem u_acts {k i : Int} {u y v : Value} {QU : Loc → AHeap → Prop} (h : SolAt H x A D) (hx : er u = .ref A.acts) (hy : er y = vi k) (hv : er v = vi i) (h0 : 0 ≤ k) (hk : k < D.acts.length) (hs : D.acts.length < 2 ^ 60) (q : ∀ H', SolAt H' x A { D with acts := D.acts.set k.toNat i } → Ext A H A H' → QU m H') :
    JU a A₀ L m (setItem u y v) H QU := u_setI hx hy hv h.acts h0 hk hs (q _ (h.set_acts _) (Ext.set (own_acts A)))
theorem r_acts {v i : Expr} {k : Int} (hp : PlainSub v i) (h : SolAt H x A D) (h0 : 0 ≤ k) (hk : k < D.acts.length) (hs : D.acts.length < 2 ^ 60) (q : Q (vi (D.acts.getD k.toNat 0)) H) : O2 a A₀ L m (subscriptTail v i) (.ref A.acts) (vi k) H Q :=
  o_item hp h.acts h0 (map_get (d := 0) (by (first | lia | omega))) (by simpa using hs) q
theorem g_acts_ {k : Int} (h : SolAt H x A D) (h0 : 0 ≤ k) (hk : k < D.acts.length) (hs : D.acts.length < 2 ^ 60) (q : Q (vi (D.acts.getD k.toNat 0)) H) : O2 a A₀ L m getItem (.ref A.acts) (vi k) H Q :=
  o_getItem h.acts h0 (map_get (d := 0) (by (first | lia | omega))) (by simpa using hs) q
theorem g_actsN {k : Nat} (h : SolAt H x A D) (hk : k < D.acts.length) (hs : D.acts.length < 2 ^ 60) (q : Q (vi (D.acts.getD k 0)) H) : O2 a A₀ L m getItem (.ref A.acts) (vi (k : Int)) H Q :=
  g_acts_ h (Int.natCast_nonneg _) (Int.ofNat_lt.mpr hk) hs q
theorem u_trail {k i : Int} {u y v : Value} {QU : Loc → AHeap → Prop} (h : SolAt H x A D) (hx : er u = .ref A.trail) (hy : er y = vi k) (hv : er v = vi i) (h0 : 0 ≤ k) (hk : k < D.trail.length) (hs : D.trail.length < 2 ^ 60) (q : ∀ H', SolAt H' x A { D with trail := D.trail.set k.toNat i } → Ext A H A H' → QU m H') :
    JU a A₀ L m (setItem u y v) H QU := u_setI hx hy hv h.trail h0 hk hs (q _ (h.set_trail _) (Ext.set (own_trail A)))
theorem r_trail {v i : Expr} {k : Int} (hp : PlainSub v i) (h : SolAt H x A D) (h0 : 0 ≤ k) (hk : k < D.trail.length) (hs : D.trail.length < 2 ^ 60) (q : Q (vi (D.trail.getD k.toNat 0)) H) : O2 a A₀ L m (subscriptTail v i) (.ref A.trail) (vi k) H Q :=
  o_item hp h.trail h0 (map_get (d := 0) (by (first | lia | omega))) (by simpa using hs) q
theorem r_trailN {v i : Expr} {k : Nat} (hp : PlainSub v i) (h : SolAt H x A D) (hk : k < D.trail.length) (hs : D.trail.length < 2 ^ 60) (q : Q (vi (D.trail.getD k 0)) H) : O2 a A₀ L m (subscriptTail v i) (.ref A.trail) (vi (k : Int)) H Q :=
  r_trail hp h (Int.natCast_nonneg _) (Int.ofNat_lt.mpr hk) hs q
theorem g_trail_ {k : Int} (h : SolAt H x A D) (h0 : 0 ≤ k) (hk : k < D.trail.length) (hs : D.trail.length < 2 ^ 60) (q : Q (vi (D.trail.getD k.toNat 0)) H) : O2 a A₀ L m getItem (.ref A.trail) (vi k) H Q :=
  o_getItem h.trail h0 (map_get (d := 0) (by (first | lia | omega))) (by simpa using hs) q
theorem app_trail {env : Env} {e : Expr} (h : SolAt H x A D) (hq : JE a A₀ L m (eval e env) H (fun v H₂ => ∃ i, v = vi i ∧ H₂ = H ∧ D.trail.length ≤ 10000 ∧ ∀ H', SolAt H' x A { D with trail := D.trail ++ [i] } → Ext A H A H' → Q .none H')) :
    AppOk a A₀ L m e env (.ref A.trail) H Q :=
  ⟨A.trail, _, rfl, h.trail, hq.mono fun v H₂ ⟨i, hv, e, hz, q⟩ => ⟨D.trail.map vi, by rw [e]; exact h.trail, by rw [List.length_map]; (first | lia | omega), by
    have := q _ (h.set_trail (D.trail ++ [i])) (Ext.set (own_trail A))
    rw [List.map_append] at this
    rw [hv, e]; exact this⟩⟩
theorem app_lims {env : Env} {e : Expr} (h : SolAt H x A D) (hq : JE a A₀ L m (eval e env) H (fun v H₂ => ∃ i : Nat, v = vn i ∧ H₂ = H ∧ D.lims.length ≤ 10000 ∧ ∀ H', SolAt H' x A { D with lims := D.lims ++ [i] } → Ext A H A H' → Q .none H')) :
    AppOk a A₀ L m e env (.ref A.lims) H Q :=
  ⟨A.lims, _, rfl, h.lims, hq.mono fun v H₂ ⟨i, hv, e, hz, q⟩ => ⟨D.lims.map vn, by rw [e]; exact h.lims, by rw [List.length_map]; (first | lia | omega), by
    have := q _ (h.set_lims (D.lims ++ [i])) (Ext.set (own_lims A))
    rw [List.map_append] at this
    rw [hv, e]; exact this⟩⟩
theorem r_lims {v i : Expr} {k : Int} (hp : PlainSub v i) (h : SolAt H x A D) (h0 : 0 ≤ k) (hk : k < D.lims.length) (hs : D.lims.length < 2 ^ 60) (q : Q (vn (D.lims.getD k.toNat 0)) H) : O2 a A₀ L m (subscriptTail v i) (.ref A.lims) (vi k) H Q :=
  o_item hp h.lims h0 (map_get (d := 0) (by (first | lia | omega))) (by simpa using hs) q
theorem r_limsN {v i : Expr} {k : Nat} (hp : PlainSub v i) (h : SolAt H x A D) (hk : k < D.lims.length) (hs : D.lims.length < 2 ^ 60) (q : Q (vn (D.lims.getD k 0)) H) : O2 a A₀ L m (subscriptTail v i) (.ref A.lims) (vi (k : Int)) H Q :=
  r_lims hp h (Int.natCast_nonneg _) (Int.ofNat_lt.mpr hk) hs q
theorem r_cls {v i : Expr} {k : Int} (hp : PlainSub v i) (h : SolAt H x A D) (h0 : 0 ≤ k) (hk : k < D.cls.length) (hs : D.cls.length < 2 ^ 60) (q : ∀ l, A.cl[k.toNat]? = some l → Q (.ref l) H) : O2 a A₀ L m (subscriptTail v i) (.ref A.cls) (vi k) H Q := by
  have hl := h.cllen
  have : k.toNat < A.cl.length := by (first | lia | omega)
  exact o_item hp h.cls h0 (by rw [List.getElem?_map, List.getElem?_eq_getElem this]; rfl) (by simp; (first | lia | omega)) (q _ (List.getElem?_eq_getElem this))
theorem r_wat {v i : Expr} {k : Int} (hp : PlainSub v i) (h : SolAt H x A D) (h0 : 0 ≤ k) (hk : k < D.wat.length) (hs : D.wat.length < 2 ^ 60) (q : ∀ l, A.row[k.toNat]? = some l → Q (.ref l) H) : O2 a A₀ L m (subscriptTail v i) (.ref A.wat) (vi k) H Q := by
  have hl := h.rowlen
  have : k.toNat < A.row.length := by (first | lia | omega)
  exact o_item hp h.wat h0 (by rw [List.getElem?_map, List.getElem?_eq_getElem this]; rfl) (by simp; (first | lia | omega)) (q _ (List.getElem?_eq_getElem this))
theorem app_row {env : Env} {e : Expr} {j : Nat} {b : Addr} (h : SolAt H x A D) (hj : A.row[j]? = some b) (hq : JE a A₀ L m (eval e env) H (fun v H₂ => ∃ i : Nat, v = vn i ∧ H₂ = H ∧ (D.wat.getD j []).length ≤ 10000 ∧ ∀ H', SolAt H' x A { D with wat := D.wat.set j (D.wat.getD j [] ++ [i]) } → Ext A H A H' → Q .none H')) :
    AppOk a A₀ L m e env (.ref b) H Q := by
  obtain ⟨r, hr, hb⟩ := h.rowOf hj
  have hg : D.wat.getD j [] = r := by simp [List.getD, hr]
  refine ⟨b, _, rfl, hb, hq.mono fun v H₂ ⟨i, hv, e, hz, q⟩ => ⟨r.map vn, by rw [e]; exact hb, by rw [List.length_map]; rw [hg] at hz; (first | lia | omega), ?_⟩⟩
  have := q _ (by rw [hg]; exact h.set_row hj (r ++ [i])) (Ext.set (own_row hj))
  rw [List.map_append] at this
  rw [hv, e]; exact this
/-- as Ext, but for the objects X -/
def ExtX (X : Addr → Prop) (A : Ad) (H : AHeap) (A' : Ad) (H' : AHeap) : Prop := ∀ b c, H b = some c → ¬ Own A b → ¬ X b → H' b = some c ∧ ¬ Own A' b
theorem Ext.toX {X : Addr → Prop} {A A' : Ad} {H H' : AHeap} (e : Ext A H A' H') : ExtX X A H A' H' := fun b c hb ho _ => e b c hb ho
theorem ExtX.trans {X : Addr → Prop} {A A₁ A₂ : Ad} {H H₁ H₂ : AHeap} (e : ExtX X A H A₁ H₁) (f : ExtX X A₁ H₁ A₂ H₂) : ExtX X A H A₂ H₂ := fun b c hb ho hx => let ⟨h1, o1⟩ := e b c hb ho hx; f b c h1 o1 hx
theorem app_cls {env : Env} {e : Expr} {b : Addr} {c' : List Int} (h : SolAt H x A D) (hb : H b = some (.list (c'.map vi))) (ho : ¬ Own A b) (hq : JE a A₀ L m (eval e env) H (fun v H₂ => v = .ref b ∧ H₂ = H ∧ D.cls.length ≤ 10000 ∧ ∀ H', SolAt H' x { A with cl := A.cl ++ [b] } { D with cls := D.cls ++ [c'] } → ExtX (· = b) A H { A with cl := A.cl ++ [b] } H' → Q .none H')) :
    AppOk a A₀ L m e env (.ref A.cls) H Q := by
  have hlen := h.cllen
  refine ⟨A.cls, _, rfl, h.cls, hq.mono fun v H₂ ⟨hv, e, hz, q⟩ => ⟨A.cl.map .ref, by rw [e]; exact h.cls, by rw [List.length_map]; (first | lia | omega), ?_⟩⟩
  have := q _ (h.add_cl hb ho) (fun z c hz hoz hx => ⟨by rw [AHeap.set_ne _ _ (fun e : z = A.cls => hoz (e ▸ own_cls A))]; exact hz, fun q => by
    exact (own_cl_snoc q).elim hoz hx⟩)
  rw [List.map_append] at this
  rw [hv, e]; exact this
theorem app_lrn {env : Env} {e : Expr} {c' : List Int} (h : SolAt H x A D) (hq : JE a A₀ L m (eval e env) H (fun v H₂ => ∃ b, v = .ref b ∧ SolAt H₂ x A D ∧ Ext A H A H₂ ∧ H₂ b = some (.tuple (c'.map vi)) ∧ D.learned.length ≤ 10000 ∧ ∀ H', SolAt H' x { A with lrn := A.lrn ++ [b] } { D with learned := D.learned ++ [c'] } → Ext A H { A with lrn := A.lrn ++ [b] } H' → Q .none H')) :
    AppOk a A₀ L m e env (.ref A.learned) H Q := by
  have hlen := h.lrnlen
  refine ⟨A.learned, _, rfl, h.learned, hq.mono fun v H₂ ⟨b, hv, h₂, e, hb, hz, q⟩ => ⟨A.lrn.map .ref, h₂.learned, by rw [List.length_map]; (first | lia | omega), ?_⟩⟩
  have := q _ (h₂.add_lrn hb) (fun z c hz hoz => ⟨by rw [AHeap.set_ne _ _ (fun e : z = A.learned => hoz (e ▸ own_learned A))]; exact (e z c hz hoz).1, fun q => hoz q⟩)
  rw [List.map_append] at this
  rw [hv]; exact this

structure SzA (D : Dat) : Prop where
  n : D.n ≤ 5
  vals : D.vals.length = D.n + 1
  levs : D.levs.length = D.n + 1
  reas : D.reas.length = D.n + 1
  lims : D.lims.length ≤ 100
  trail : D.trail.length ≤ 100
theorem Sz.toA {D : Dat} (z : Sz D) : SzA D := ⟨z.n, z.vals, z.levs, z.reas, z.lims, z.trail⟩
def Dat.assign (D : Dat) (l r : Int) : Dat := { D with vals := D.vals.set l.natAbs (if 0 < l then 1 else -1), levs := D.levs.set l.natAbs D.lims.length, reas := D.reas.set l.natAbs r, trail := D.trail ++ [l] }
theorem assign_c {l r : Int} (h : SolAt H x A D) (z : SzA D) (h1 : l.natAbs ≤ D.n) (hR : Rm A₀ 2)
    (q : ∀ H', SolAt H' x A (D.assign l r) → Ext A H A H' → Q .none H') : CA a A₀ L m (.ref 96) [.ref x, vi l, vi r] H Q := by
  refine c_def3 (p := Str.ofString "self") (q := Str.ofString "literal") (r := Str.ofString "reason") (at_assign _) (cd_assign _) hR (fun _ _ _ => by with_unfolding_all rfl) (by decide) (by decide) (fun L' A' R' => ?_)
  obtain ⟨z0, z1, z2, z3, z4, z5⟩ := z
  walk_at "xs"
  refine ite_d (fun hp => ?_) (fun hp => ?_)
  all_goals
    walk_at "xs"
    intro v' x' y' hv hx hy
    refine u_vals h hx hy hv (by (first | lia | omega)) (by (first | lia | omega)) (by (first | lia | omega)) fun H₁ h₁ e₁ => ?_
    walk_at "xs"
    refine CA.oc (level_c h₁ (by dsimp only; (first | lia | omega)) R' ?_)
    walk_at "xs"
    intro v' x' y' hv hx hy
    refine u_levs h₁ hx hy hv (by (first | lia | omega)) (by dsimp only; (first | lia | omega)) (by dsimp only; (first | lia | omega)) fun H₂ h₂ e₂ => ?_
    walk_at "xs"
    intro v' x' y' hv hx hy
    refine u_reas h₂ hx hy hv (by (first | lia | omega)) (by dsimp only; (first | lia | omega)) (by dsimp only; (first | lia | omega)) fun H₃ h₃ e₃ => ?_
    walk_at "xs"
    refine app_trail h₃ ?_
    walk_at "xs"
    refine ⟨_, rfl, rfl, by (first | lia | omega), fun H₄ h₄ e₄ => ?_⟩
    walk_at "xs"
    refine q H₄ ?_ (((e₁.trans e₂).trans e₃).trans e₄)
    simpa [Dat.assign, hp] using h₄
theorem decide_c {l : Int} (h : SolAt H x A D) (z : Sz D) (h1 : l.natAbs ≤ D.n) (h2 : D.lims.length < 100) (hR : Rm A₀ 3)
    (q : ∀ H', SolAt H' x A (({ D with lims := D.lims ++ [D.trail.length] } : Dat).assign l (-1)) → Ext A H A H' → Q .none H') : CA a A₀ L m (.ref 103) [.ref x, vi l] H Q := by
  refine c_def2 (p := Str.ofString "self") (q := Str.ofString "literal") (at_decide _) (cd_decide _) hR (fun _ _ => by with_unfolding_all rfl) (by decide) (by decide) (fun L' A' R' => ?_)
  have z5 := z.trail
  walk_at "xs"
  refine app_lims h ?_
  walk_at "xs"
  refine c_len_list h.trail (by rw [List.length_map]; (first | lia | omega)) ?_
  rw [List.length_map]
  refine ⟨_, rfl, rfl, by (first | lia | omega), fun H₁ h₁ e₁ => ?_⟩
  walk_at "xs"
  refine CA.oc (assign_c h₁ { z.toA with lims := by simp; (first | lia | omega) } h1 R' fun H₂ h₂ e₂ => ?_)
  walk_at "xs"
  exact q H₂ h₂ (e₁.trans e₂)
end
end
-- W2
section
set_option compiler.extract_closed false
section
variable {a : Amb hd.heap_39} {A₀ : Around} {L : Addr} {m : Loc} {H : AHeap} {Q : Value → AHeap → Prop} {x : Addr} {A : Ad} {D : Dat}
def slotN (l : Int) : Nat := (slotI l).toNat
theorem slotI_nonneg (l : Int) : 0 ≤ slotI l := by unfold slotI; split <;> (first | lia | omega)
theorem slotN_lt {l : Int} {n : Nat} (h : l.natAbs ≤ n) : slotN l < 2 * n + 2 := by unfold slotN slotI; split <;> (first | lia | omega)
theorem slotI_lt {l : Int} {n : Nat} (h : l.natAbs ≤ n) : slotI l < 2 * n + 2 := by unfold slotI; split <;> (first | lia | omega)
def Dat.push (D : Dat) (j i : Nat) : Dat := { D with wat := D.wat.set j (D.wat.getD j [] ++ [i]) }
def Dat.attach (D : Dat) (c : List Int) : Dat := (({ D with cls := D.cls ++ [c] } : Dat).push (slotN (c.getD 0 0)) D.cls.length).push (slotN (c.getD 1 0)) D.cls.length
theorem row_bound {D : Dat} (z : Sz D) (j : Nat) : (D.wat.getD j []).length ≤ 4000 := by
  by_cases h : j < D.wat.length
  · exact z.row _ (by simp [List.getD, h])
  · simp [List.getD, h]
theorem attach_c {b : Addr} {c : List Int} (h : SolAt H x A D) (z : Sz D) (hb : H b = some (.list (c.map vi))) (ho : ¬ Own A b) (hc : 2 ≤ c.length ∧ c.length ≤ 100) (hl : ∀ l ∈ c, l.natAbs ≤ D.n) (hR : Rm A₀ 2)
    (q : ∀ H', SolAt H' x { A with cl := A.cl ++ [b] } (D.attach c) → ExtX (· = b) A H { A with cl := A.cl ++ [b] } H' → Q (vn D.cls.length) H') : CA a A₀ L m (.ref 75) [.ref x, .ref b] H Q := by
  refine c_def2 (p := Str.ofString "self") (q := Str.ofString "literals") (at_attach _) (cd_attach _) hR (fun _ _ => by with_unfolding_all rfl) (by decide) (by decide) (fun L' A' R' => ?_)
  have zc := z.cls
  have zn := z.n
  have zw := z.wat
  have hlen := h.cllen
  have l0 : (c.getD 0 0).natAbs ≤ D.n := hl _ (by simp [List.getD]; rw [List.getElem?_eq_getElem (by (first | lia | omega))]; simp)
  have l1 : (c.getD 1 0).natAbs ≤ D.n := hl _ (by simp [List.getD]; rw [List.getElem?_eq_getElem (by (first | lia | omega))]; simp)
  walk_at "xs"
  refine c_len_list h.cls (by rw [List.length_map]; (first | lia | omega)) ?_
  rw [List.length_map, hlen]
  walk_at "xs"
  refine app_cls h hb ho ?_
  walk_at "xs"
  refine ⟨rfl, rfl, by (first | lia | omega), fun H₁ h₁ e₁ => ?_⟩
  walk_at "xs"
  have hb₁ : H₁ b = some (.list (c.map vi)) := h₁.cl D.cls.length b c (by rw [← hlen]; simp) (by simp)
  refine o_item (fun _ _ => ⟨_, rfl⟩) hb₁ (by (first | lia | omega)) (map_get (l := c) (i := 0) (d := 0) (by (first | lia | omega))) (by simp; (first | lia | omega)) ?_
  walk_at "xs"
  refine CA.oc (slot_c R' ?_)
  have s0 := slotI_nonneg (c.getD 0 0)
  have s0' := slotI_lt l0
  have s1 := slotI_nonneg (c.getD 1 0)
  have s1' := slotI_lt l1
  refine r_wat (A := { A with cl := A.cl ++ [b] }) (fun _ _ => ⟨_, rfl⟩) h₁ s0 (by (try dsimp only); (first | lia | omega)) (by (try dsimp only); (first | lia | omega)) fun b₀ hb₀ => ?_
  refine app_row h₁ hb₀ ?_
  walk_at "xs"
  refine ⟨_, rfl, rfl, by have := row_bound z (slotI (c.getD 0 0)).toNat; (try dsimp only); (first | lia | omega), fun H₂ h₂ e₂ => ?_⟩
  walk_at "xs"
  have hb₂ : H₂ b = some (.list (c.map vi)) := h₂.cl D.cls.length b c (by rw [← hlen]; simp) (by simp)
  refine o_item (fun _ _ => ⟨_, rfl⟩) hb₂ (by (first | lia | omega)) (map_get (l := c) (i := 1) (d := 0) (by (first | lia | omega))) (by simp; (first | lia | omega)) ?_
  walk_at "xs"
  refine CA.oc (slot_c R' ?_)
  refine r_wat (A := { A with cl := A.cl ++ [b] }) (fun _ _ => ⟨_, rfl⟩) h₂ s1 (by (try simp only [List.length_set]); (first | lia | omega)) (by (try simp only [List.length_set]); (first | lia | omega)) fun b₁ hb₁' => ?_
  refine app_row h₂ hb₁' ?_
  walk_at "xs"
  refine ⟨_, rfl, rfl, ?_, fun H₃ h₃ e₃ => ?_⟩
  · have r0 := row_bound z (slotI (c.getD 0 0)).toNat
    have r1 := row_bound z (slotI (c.getD 1 0)).toNat
    (try dsimp only)
    by_cases e : (slotI (c.getD 0 0)).toNat = (slotI (c.getD 1 0)).toNat
    · rw [← e, List.getD_eq_getElem?_getD, List.getElem?_set_self (by (first | lia | omega))]; simp only [Option.getD_some, List.length_append, List.length_singleton]; (first | lia | omega)
    · rw [List.getD_eq_getElem?_getD, List.getElem?_set_ne e, ← List.getD_eq_getElem?_getD]; (first | lia | omega)
  walk_at "xs"
  exact q H₃ h₃ ((e₁.trans e₂.toX).trans e₃.toX)
theorem refute_c (h : SolAt H x A D) (z : Sz D) (hR : Rm A₀ 1) (q : ∀ A' H', SolAt H' x A' { D with refuted := true, learned := D.learned ++ [[]] } → Ext A H A' H' → Q .none H') : CA a A₀ L m (.ref 89) [.ref x] H Q := by
  refine c_def1 (p := Str.ofString "self") (at_refute _) (cd_refute _) hR (fun _ => by with_unfolding_all rfl) (by decide) (by decide) (fun L' A' R' => ?_)
  have zl := z.learned
  walk_at "xs"
  intro v' x' hv hx
  refine w_refuted true h hx hv ?_
  have h₁ := h.set_dict D.n D.step D.head true
  have e₁ : Ext A H A (H.set A.d (.attrs (sfs A { D with refuted := true }))) := Ext.set (own_d A)
  walk_at "xs"
  refine app_lrn (c' := []) h₁ ?_
  walk_at "xs"
  refine ⟨by simp, fun D₁ hD => ?_⟩
  have hl : (H.set A.d (.attrs (sfs A { D with refuted := true }))) D₁ = none := hD
  refine ⟨D₁, rfl, h₁.beside hl, fun z c hz ho => ⟨by rw [AHeap.set_ne _ _ (fun e => by rw [e, hl] at hz; cases hz)]; exact hz, ho⟩, by rw [AHeap.set_same]; rfl, by (try dsimp only); (first | lia | omega), fun H₂ h₂ e₂ => ?_⟩
  walk_at "xs"
  exact q _ _ h₂ (e₁.trans e₂)
end
end
-- W3
section
set_option compiler.extract_closed false
section
variable {a : Amb hd.heap_39} {A₀ : Around} {L : Addr} {m : Loc} {H : AHeap} {Q : Value → AHeap → Prop} {x : Addr} {A : Ad} {D : Dat}
def Dat.learn (D : Dat) (c : List Int) : Dat :=
  if c.length = 1 then ({ D with learned := D.learned ++ [c] } : Dat).assign (c.getD 0 0) (-1) else (({ D with learned := D.learned ++ [c] } : Dat).attach c).assign (c.getD 0 0) D.cls.length
theorem learn_c {b : Addr} {c : List Int} (h : SolAt H x A D) (z : Sz D) (hln : D.learned.length < 2000) (hb : H b = some (.list (c.map vi))) (ho : ¬ Own A b) (hc : 1 ≤ c.length ∧ c.length ≤ 100) (hl : ∀ l ∈ c, l.natAbs ≤ D.n) (hR : Rm A₀ 3)
    (q : ∀ A' H', SolAt H' x A' (D.learn c) → ExtX (· = b) A H A' H' → Q .none H') : CA a A₀ L m (.ref 82) [.ref x, .ref b] H Q := by
  refine c_def2 (p := Str.ofString "self") (q := Str.ofString "literals") (at_learn _) (cd_learn _) hR (fun _ _ => by with_unfolding_all rfl) (by decide) (by decide) (fun L' A' R' => ?_)
  have zl := z.learned
  have zn := z.n
  have l0 : (c.getD 0 0).natAbs ≤ D.n := hl _ (by simp [List.getD]; rw [List.getElem?_eq_getElem (by (first | lia | omega))]; simp)
  walk_at "xs"
  refine app_lrn (c' := c) h ?_
  walk_at "xs"
  refine c_tuple hb (by rw [List.length_map]; (first | lia | omega)) fun T hT => ?_
  refine ⟨T, rfl, h.beside hT, fun z c hz ho => ⟨by rw [AHeap.set_ne _ _ (fun e => by rw [e, hT] at hz; cases hz)]; exact hz, ho⟩, AHeap.set_same .., by (first | lia | omega), fun H₁ h₁ e₁ => ?_⟩
  have hb₁ := e₁ b _ hb ho
  walk_at "xs"
  refine c_len_list hb₁.1 (by rw [List.length_map]; (first | lia | omega)) ?_
  rw [List.length_map]
  walk_at "xs"
  refine ite_e (fun e => ?_) (fun e => ?_)
  · walk_at "xs"
    refine o_item (fun _ _ => ⟨_, rfl⟩) hb₁.1 (by (first | lia | omega)) (map_get (l := c) (i := 0) (d := 0) (by (first | lia | omega))) (by simp; (first | lia | omega)) ?_
    walk_at "xs"
    refine CA.oc (assign_c h₁ ⟨z.n, z.vals, z.levs, z.reas, z.lims, z.trail⟩ l0 (R'.le (by (first | lia | omega))) fun H₂ h₂ e₂ => ?_)
    walk_at "xs"
    refine q _ H₂ ?_ (e₁.toX.trans e₂.toX)
    rw [Dat.learn, if_pos (by (first | lia | omega))]; exact h₂
  · walk_at "xs"
    refine o_item (fun _ _ => ⟨_, rfl⟩) hb₁.1 (by (first | lia | omega)) (map_get (l := c) (i := 0) (d := 0) (by (first | lia | omega))) (by simp; (first | lia | omega)) ?_
    walk_at "xs"
    refine CA.oc (attach_c h₁ { z with learned := by simp only [List.length_append, List.length_singleton]; (first | lia | omega) } hb₁.1 hb₁.2 (by (first | lia | omega)) hl (R'.le (by (first | lia | omega))) fun H₂ h₂ e₂ => ?_)
    walk_at "xs"
    refine CA.oc (assign_c h₂ ⟨z.n, z.vals, z.levs, z.reas, z.lims, z.trail⟩ l0 (R'.le (by (first | lia | omega))) fun H₃ h₃ e₃ => ?_)
    walk_at "xs"
    refine q _ H₃ ?_ ((e₁.toX.trans e₂).trans e₃.toX)
    rw [Dat.learn, if_neg (by (first | lia | omega))]; exact h₃
theorem forces_c {k : Nat} (h : SolAt H x A D) (z : Sz D) (hk : k < D.cls.length) (hR : Rm A₀ 3)
    (q : ∀ H' D', D' = (if valI D.vals ((D.cls.getD k []).getD 0 0) = 0 then D.assign ((D.cls.getD k []).getD 0 0) k else D) → SolAt H' x A D' → Ext A H A H' → Q (vb (decide (valI D'.vals ((D.cls.getD k []).getD 0 0) < 0))) H') : CA a A₀ L m (.ref 131) [.ref x, vn k] H Q := by
  refine c_def2 (p := Str.ofString "self") (q := Str.ofString "number") (at_forces _) (cd_forces _) hR (fun _ _ => by with_unfolding_all rfl) (by decide) (by decide) (fun L' A' R' => ?_)
  have zc := z.cls
  have zn := z.n
  have zv := z.vals
  have hlen := h.cllen
  have hmem : D.cls.getD k [] ∈ D.cls := by simp [List.getD, hk]
  obtain ⟨hcl, hc2⟩ := z.cl _ hmem
  have l0 : ((D.cls.getD k []).getD 0 0).natAbs ≤ D.n := (z.lit _ hmem _ (by simp only [List.getD_eq_getElem?_getD] at hc2 ⊢; rw [List.getElem?_eq_getElem (l := (D.cls[k]?.getD [])) (i := 0) (by (first | lia | omega))]; simp)).2
  walk_at "xs"
  refine r_cls (fun _ _ => ⟨_, rfl⟩) h (by (first | lia | omega)) (by (first | lia | omega)) (by (first | lia | omega)) fun l hl => ?_
  have hcl' : H l = some (.list ((D.cls.getD k []).map vi)) := h.cl k l _ hl (by simp [List.getD, hk])
  walk_at "xs"
  refine o_item (fun _ _ => ⟨_, rfl⟩) hcl' (by (first | lia | omega)) (map_get (i := 0) (d := 0) (by (first | lia | omega))) (by simp only [List.length_map]; (first | lia | omega)) ?_
  generalize (D.cls.getD k []).getD 0 0 = f at *
  walk_at "xs"
  refine CA.oc (value_c h (by (first | lia | omega)) (by (first | lia | omega)) (R'.le (by (first | lia | omega))) ?_)
  walk_at "xs"
  refine ite_e (fun e => ?_) (fun e => ?_)
  · walk_at "xs"
    refine CA.oc (assign_c h z.toA l0 R' fun H₁ h₁ e₁ => ?_)
    walk_at "xs"
    refine CA.oc (value_c h₁ (by simp only [Dat.assign, List.length_set]; (first | lia | omega)) (by simp only [Dat.assign, List.length_set]; (first | lia | omega)) (R'.le (by (first | lia | omega))) ?_)
    walk_at "xs"
    exact q _ _ (by rw [if_pos e]) h₁ e₁
  · walk_at "xs"
    refine CA.oc (value_c h (by (first | lia | omega)) (by (first | lia | omega)) (R'.le (by (first | lia | omega))) ?_)
    walk_at "xs"
    exact q _ _ (by rw [if_neg e]) h (Ext.refl _ _)
theorem model_c (h : SolAt H x A D) (z : Sz D) (hR : Rm A₀ 1) (q : ∀ M, H M = none → Q (.ref M) (H.set M (.list (D.found.map vb)))) : CA a A₀ L m (.ref 187) [.ref x] H Q := by
  refine c_def1 (p := Str.ofString "self") (at_model _) (cd_model _) hR (fun _ => by with_unfolding_all rfl) (by decide) (by decide) (fun L' A' R' => ?_)
  have zf := z.found
  have zn := z.n
  walk_at "xs"
  refine c_list h.found (by rw [List.length_map]; (first | lia | omega)) fun M hM => ?_
  exact q M hM
end
end
-- W4
section
set_option compiler.extract_closed false
section
variable {a : Amb hd.heap_39} {A₀ : Around} {L : Addr} {m : Loc} {H : AHeap} {Q : Value → AHeap → Prop} {x : Addr} {A : Ad} {D : Dat}
theorem pop_trail {t : List Int} {l : Int} (h : SolAt H x A D) (ht : D.trail = t ++ [l]) (hz : t.length ≤ 1000) (q : ∀ H', SolAt H' x A { D with trail := t } → Ext A H A H' → Q (vi l) H') : PopOk (.ref A.trail) H Q :=
  ⟨A.trail, t.map vi, vi l, rfl, by rw [h.trail, ht, List.map_append]; rfl, by rw [List.length_map]; (first | lia | omega), q _ (h.set_trail t) (Ext.set (own_trail A))⟩
def Dat.pop (D : Dat) : Dat := match D.trail.getLast? with
  | some l => { D with trail := D.trail.dropLast, phas := D.phas.set l.natAbs (D.vals.getD l.natAbs 0), vals := D.vals.set l.natAbs 0 }
  | none => D
def Dat.popN (D : Dat) : Nat → Dat
  | 0 => D
  | k + 1 => (D.popN k).pop
def Dat.cancel (D : Dat) (lvl : Nat) : Dat := if D.lims.length ≤ lvl then D else { D.popN (D.trail.length - D.lims.getD lvl 0) with lims := D.lims.take lvl, head := D.lims.getD lvl 0 }
structure PopSame (D D' : Dat) (k : Nat) : Prop where
  trail : D'.trail = D.trail.take (D.trail.length - k)
  lims : D'.lims = D.lims
  head : D'.head = D.head
  vals : D'.vals.length = D.vals.length
  phas : D'.phas.length = D.phas.length
  n : D'.n = D.n
theorem take_dropLast {α : Type} (l : List α) (k : Nat) : (l.take (l.length - k)).dropLast = l.take (l.length - (k + 1)) := by
  rw [List.dropLast_eq_take, List.take_take, List.length_take, Nat.min_eq_left (Nat.sub_le _ _), Nat.min_eq_left (Nat.sub_le _ _), Nat.sub_sub]
theorem popN_same (D : Dat) : ∀ k, PopSame D (D.popN k) k
  | 0 => ⟨(List.take_length ..).symm, rfl, rfl, rfl, rfl, rfl⟩
  | k + 1 => by
    have ih := popN_same D k
    rw [Dat.popN, Dat.pop]
    split
    · exact ⟨(congrArg List.dropLast ih.trail).trans (take_dropLast _ _), ih.lims, ih.head, (List.length_set ..).trans ih.vals, (List.length_set ..).trans ih.phas, ih.n⟩
    · rename_i hl
      refine ⟨?_, ih.lims, ih.head, ih.vals, ih.phas, ih.n⟩
      rw [List.getLast?_eq_none_iff] at hl
      rw [← take_dropLast, ← ih.trail, hl]; rfl
theorem cancel_c {lvl : Nat} (h : SolAt H x A D) (z : Sz D) (ht : ∀ l ∈ D.trail, l.natAbs ≤ D.n) (hp : D.lims.getD lvl 0 ≤ D.trail.length) (hR : Rm A₀ 2)
    (q : ∀ A' H', SolAt H' x A' (D.cancel lvl) → Ext A H A' H' → Q .none H') : CA a A₀ L m (.ref 110) [.ref x, vn lvl] H Q := by
  refine c_def2 (p := Str.ofString "self") (q := Str.ofString "level") (at_cancel _) (cd_cancel _) hR (fun _ _ => by with_unfolding_all rfl) (by decide) (by decide) (fun L' A' R' => ?_)
  have zl := z.lims
  have zt := z.trail
  have zn := z.n
  have zv := z.vals
  have zp := z.phas
  walk_at "xs"
  refine CA.oc (level_c h (by (first | lia | omega)) R' ?_)
  walk_at "xs"
  refine ite_d (fun hn => ?_) (fun hn => ?_)
  · walk_at "xs"
    refine q A H ?_ (Ext.refl _ _)
    rw [Dat.cancel, if_pos (by (first | lia | omega))]; exact h
  · walk_at "xs"
    refine r_limsN (fun _ _ => ⟨_, rfl⟩) h (by (first | lia | omega)) (by (first | lia | omega)) ?_
    generalize hpd : D.lims.getD lvl 0 = p at *
    walk_at "xs"
    refine s_while (fun j m₁ H₁ => ∃ k, k + p ≤ D.trail.length ∧ j = D.trail.length - p - k ∧ m₁ (Str.ofString "self") = some (.ref x) ∧ m₁ (Str.ofString "level") = some (vn lvl) ∧ m₁ (Str.ofString "length") = some (vn p) ∧ SolAt H₁ x A (D.popN k) ∧ Ext A H A H₁) (D.trail.length - p) ⟨0, by (first | lia | omega), by (first | lia | omega), by walk_at "loc", by walk_at "loc", by walk_at "loc", h, Ext.refl _ _⟩ ?_
    rintro j m₁ H₁ ⟨k, hk, rfl, hs, hlv, hln, h₁, e₁⟩
    have hps := popN_same D k
    have hpt := hps.trail
    have hlen : (D.popN k).trail.length = D.trail.length - k := by rw [hpt, List.length_take]; (first | lia | omega)
    walk_at "xs"
    refine c_len_list h₁.trail (by rw [List.length_map]; (first | lia | omega)) ?_
    rw [List.length_map, hlen]
    walk_at "xs"
    refine ite_d (fun hgt => ?_) (fun hgt => ?_)
    · walk_at "xs"
      have hne : (D.popN k).trail ≠ [] := fun e => by rw [e] at hlen; simp at hlen; (first | lia | omega)
      obtain ⟨t, l, htl⟩ : ∃ t l, (D.popN k).trail = t ++ [l] := ⟨_, _, (List.dropLast_concat_getLast hne).symm⟩
      have hlm : l.natAbs ≤ D.n := ht l (by
        have : l ∈ (D.popN k).trail := by rw [htl]; simp
        rw [hpt] at this; exact List.mem_of_mem_take this)
      have htlen : t.length ≤ 1000 := by have := congrArg List.length htl; simp at this; (first | lia | omega)
      refine pop_trail h₁ htl htlen fun H₂ h₂ e₂ => ?_
      walk_at "xs"
      refine r_vals (fun _ _ => ⟨_, rfl⟩) h₂ (by (first | lia | omega)) (by have := hps.vals; (try dsimp only); (first | lia | omega)) (by have := hps.vals; (try dsimp only); (first | lia | omega)) ?_
      walk_at "xs"
      intro v' x' y' hv hx hy
      refine u_phas h₂ hx hy hv (by (first | lia | omega)) (by have := hps.phas; (try dsimp only); (first | lia | omega)) (by have := hps.phas; (try dsimp only); (first | lia | omega)) fun H₃ h₃ e₃ => ?_
      walk_at "xs"
      intro v' x' y' hv hx hy
      refine u_vals h₃ hx hy hv (by (first | lia | omega)) (by have := hps.vals; (try dsimp only); (first | lia | omega)) (by have := hps.vals; (try dsimp only); (first | lia | omega)) fun H₄ h₄ e₄ => ?_
      walk_at "xs"
      refine ⟨_, ?_, k + 1, by (first | lia | omega), rfl, by walk_at "loc", by walk_at "loc", by walk_at "loc", ?_, ((e₁.trans e₂).trans e₃).trans e₄⟩
      · (first | lia | omega)
      · rw [Dat.popN, Dat.pop, htl]
        simpa [htl] using h₄
    · walk_at "xs"
      have hk' : k = D.trail.length - p := by (first | lia | omega)
      subst hk'
      refine ⟨A.lims, _, _, rfl, h₁.lims, rfl, by (first | lia | omega), by rw [List.length_map, hps.lims]; (first | lia | omega), fun b hb => ?_⟩
      walk_at "xs"
      intro v' x' hv hx
      have hlt := hps.lims
      have hbS := h₁.beside (c := .list (((D.popN (D.trail.length - p)).lims.map vn).take (lvl : Int).toNat)) hb
      have hbo := h₁.fresh_own hb
      refine w_limits b hbS hx hv ?_
      have h₂ := hbS.bind_lims (b := b) (vs := D.lims.take lvl) (by rw [AHeap.set_same, hlt, Int.toNat_natCast, List.map_take]) hbo
      walk_at "xs"
      intro v' x' hv hx
      refine w_head p h₂ hx hv ?_
      have h₃ := h₂.set_dict (D.popN (D.trail.length - p)).n (D.popN (D.trail.length - p)).step p (D.popN (D.trail.length - p)).refuted
      walk_at "xs"
      refine q { A with lims := b } _ ?_ ?_
      · rw [Dat.cancel, if_neg (by (first | lia | omega)), hpd]
        exact h₃
      · intro z c hz ho
        obtain ⟨g1, g2⟩ := e₁ z c hz ho
        have hzb : z ≠ b := fun e => by rw [e, hb] at g1; cases g1
        have hzd : z ≠ A.d := fun e => ho (e ▸ own_d A)
        exact ⟨by rw [AHeap.set_ne _ _ hzd, AHeap.set_ne _ _ hzd, AHeap.set_ne _ _ hzb]; exact g1, fun o => (ownb_lims o).elim g2 hzb⟩
theorem leave_c {v : Value} (h : SolAt H x A D) (z : Sz D) (ht : ∀ l ∈ D.trail, l.natAbs ≤ D.n) (hp : D.lims.getD 0 0 ≤ D.trail.length) (hR : Rm A₀ 3) (hv : ∃ b : Bool, v = vb b ∨ v = .none)
    (q : ∀ A' H', SolAt H' x A' (D.cancel 0) → Ext A H A' H' → Q v H') : CA a A₀ L m (.ref 180) [.ref x, v] H Q := by
  refine c_def2 (p := Str.ofString "self") (q := Str.ofString "answer") (at_leave _) (cd_leave _) hR (fun _ _ => by with_unfolding_all rfl) (by decide) (by decide) (fun L' A' R' => ?_)
  walk_at "xs"
  refine CA.oc (cancel_c (lvl := 0) h z ht hp R' fun A' H' h' e' => ?_)
  walk_at "xs"
  exact q A' H' h' e'
end
end
-- W5
section
set_option compiler.extract_closed false
section
variable {a : Amb hd.heap_39} {A₀ : Around} {L : Addr} {m : Loc} {H : AHeap} {Q : Value → AHeap → Prop} {x : Addr} {A : Ad} {D : Dat}
theorem vn_succ (i : Nat) : vn (i + 1) = vi (1 + (i : Int)) := by show Value.int _ _ = Value.int _ _; congr 1; (first | lia | omega)
theorem natAbs_small {k : Int} (h1 : -1000 < k) (h2 : k < 100000) : k.natAbs < 2 ^ 40 := Nat.lt_of_lt_of_le (show k.natAbs < 100000 by (first | lia | omega)) (by decide)
theorem rangeV_inv {lo hi : Int} {i : Nat} {v : Value} (h : (rangeV lo hi)[i]? = some v) : v = vi (lo + i) ∧ (i : Int) < hi - lo := by
  have hlt := (List.getElem?_eq_some_iff.mp h).1
  rw [rangeV_length] at hlt
  rw [rangeV_get lo hi hlt] at h
  exact ⟨(Option.some.inj h).symm, by (first | lia | omega)⟩
theorem Ext.fresh {b : Addr} {c : Cell} (hb : H b = none) : Ext A H A (H.set b c) := fun z c' hz ho => ⟨by rw [AHeap.set_ne _ _ (fun e => by rw [e, hb] at hz; cases hz)]; exact hz, ho⟩
structure FV (x : Addr) (D : Dat) (H₀ : AHeap) (i : Nat) (m₁ : Loc) (H₁ : AHeap) (b : Nat) : Prop where
  self : m₁ (Str.ofString "self") = some (.ref x)
  best : m₁ (Str.ofString "best") = some (vn b)
  eq : H₁ = H₀
  zero : b = 0 → ∀ v, 1 ≤ v → v ≤ i → D.vals.getD v 0 ≠ 0
  some' : b ≠ 0 → b ≤ D.n ∧ D.vals.getD b 0 = 0
theorem free_variable_c (h : SolAt H x A D) (z : Sz D) (hR : Rm A₀ 1)
    (q : ∀ H' (r : Nat), SolAt H' x A D → Ext A H A H' → (r = 0 → ∀ v, 1 ≤ v → v ≤ D.n → D.vals.getD v 0 ≠ 0) → (r ≠ 0 → r ≤ D.n ∧ D.vals.getD r 0 = 0) → Q (vn r) H') : CA a A₀ L m (.ref 159) [.ref x] H Q := by
  refine c_def1 (p := Str.ofString "self") (at_free_variable _) (cd_free_variable _) hR (fun _ => by with_unfolding_all rfl) (by decide) (by decide) (fun L' A' R' => ?_)
  have zn := z.n
  have zv := z.vals
  have za := z.acts
  walk_at "xs"
  refine s_for (fun _ => rfl) (fun _ _ => rfl) R'.handled ?_
  walk_at "xs"
  refine c_range2 fun R hR => ?_
  have hs := h.beside (c := .range 1 (D.n + 1)) hR
  have es : Ext A H A (H.set R (.range 1 (D.n + 1))) := Ext.fresh hR
  refine ⟨_, _, fun i m₁ H₁ => ∃ b, FV x D (H.set R (.range 1 (D.n + 1))) i m₁ H₁ b,
    .range (AHeap.set_same ..) (natAbs_small (by (first | lia | omega)) (by (first | lia | omega))) (natAbs_small (by (first | lia | omega)) (by (first | lia | omega))), ⟨0, by walk_at "loc", by exact Loc.set_same _ _ _, rfl, fun _ v h1 h2 => absurd (Nat.le_trans h1 h2) (by decide), fun h => absurd rfl h⟩, ?_, ?_⟩
  · rintro i v m₁ H₁ hv ⟨b, hm1, hm2, rfl, hb1, hb2⟩ _ v' hv'
    obtain ⟨rfl, hi⟩ := rangeV_inv hv
    have hi' : i + 1 ≤ D.n := by (first | lia | omega)
    walk_at "xs"
    have bl : b ≤ D.n := by
      by_cases e : b = 0
      · (first | lia | omega)
      · exact (hb2 e).1
    refine r_vals (fun _ _ => ⟨_, rfl⟩) hs (by (first | lia | omega)) (by (first | lia | omega)) (by (first | lia | omega)) ?_
    rw [show (1 + (i : Int)).toNat = i + 1 by (first | lia | omega)]
    walk_at "xs"
    refine ite_e (fun e0 => ?_) (fun e0 => ?_)
    · walk_at "xs"
      refine ite_e (fun eb => ?_) (fun eb => ?_)
      · walk_at "xs"
        refine ⟨⟨i + 1, by walk_at "loc", ?_, rfl, fun e => absurd e (by (first | lia | omega)), fun _ => ⟨hi', e0⟩⟩, trivial⟩
        rw [vn_succ]
        walk_at "loc"
      · walk_at "xs"
        refine r_acts (fun _ _ => ⟨_, rfl⟩) hs (by (first | lia | omega)) (by (first | lia | omega)) (by (first | lia | omega)) ?_
        walk_at "xs"
        refine r_acts (fun _ _ => ⟨_, rfl⟩) hs (by (first | lia | omega)) (by (first | lia | omega)) (by (first | lia | omega)) ?_
        walk_at "xs"
        refine ite_d (fun hg => ?_) (fun hg => ?_)
        · walk_at "xs"
          refine ⟨⟨i + 1, by walk_at "loc", ?_, rfl, fun e => absurd e (by (first | lia | omega)), fun _ => ⟨hi', e0⟩⟩, trivial⟩
          rw [vn_succ]
          walk_at "loc"
        · walk_at "xs"
          refine ⟨⟨b, by walk_at "loc", by walk_at "loc", rfl, fun e => absurd (by (first | lia | omega)) eb, hb2⟩, trivial⟩
    · walk_at "xs"
      refine ⟨⟨b, by walk_at "loc", by walk_at "loc", rfl, fun e v h1 h2 => ?_, hb2⟩, trivial⟩
      by_cases ev : v = i + 1
      · subst ev; exact e0
      · exact hb1 e v h1 (by (first | lia | omega))
  · rintro m₁ H₁ ⟨b, hm1, hm2, rfl, hb1, hb2⟩
    rw [rangeV_length] at hb1
    walk_at "xs"
    exact q _ b hs es (fun e v h1 h2 => hb1 e v h1 (by (first | lia | omega))) hb2
theorem bump_c {v : Nat} (h : SolAt H x A D) (z : Sz D) (h1 : v ≤ D.n) (hR : Rm A₀ 1)
    (q : ∀ H' acts' step', SolAt H' x A { D with acts := acts', step := step' } → acts'.length = D.acts.length → Ext A H A H' → Q .none H') : CA a A₀ L m (.ref 138) [.ref x, vn v] H Q := by
  refine c_def2 (p := Str.ofString "self") (q := Str.ofString "variable") (at_bump _) (cd_bump _) hR (fun _ _ => by with_unfolding_all rfl) (by decide) (by decide) (fun L' A' R' => ?_)
  have zn := z.n
  have za := z.acts
  walk_at "xs"
  refine g_actsN h (by (first | lia | omega)) (by (first | lia | omega)) ?_
  walk_at "xs"
  intro v' x' y' hv hx hy
  refine u_acts h hx hy hv (by (first | lia | omega)) (by (first | lia | omega)) (by (first | lia | omega)) fun H₁ h₁ e₁ => ?_
  walk_at "xs"
  refine r_acts (fun _ _ => ⟨_, rfl⟩) h₁ (by (first | lia | omega)) (by simp only [List.length_set]; (first | lia | omega)) (by simp only [List.length_set]; (first | lia | omega)) ?_
  walk_at "xs"
  refine ite_d (fun hg => ?_) (fun hg => ?_)
  · walk_at "xs"
    refine s_for (fun _ => rfl) (fun _ _ => rfl) R'.handled ?_
    walk_at "xs"
    refine c_range2 fun R hR => ?_
    refine ⟨_, _, fun i m₁ H₂ => m₁ (Str.ofString "self") = some (.ref x) ∧ ∃ acts', acts'.length = D.acts.length ∧ SolAt H₂ x A { D with acts := acts' } ∧ Ext A H A H₂,
      .range (AHeap.set_same ..) (natAbs_small (by (first | lia | omega)) (by (first | lia | omega))) (natAbs_small (by (try dsimp only); (first | lia | omega)) (by (try dsimp only); (first | lia | omega))), ⟨by walk_at "loc", _, by simp only [List.length_set], h₁.beside hR, e₁.trans (Ext.fresh hR)⟩, ?_, ?_⟩
    · rintro i v m₁ H₂ hv ⟨hm1, acts', hl, h₂, e₂⟩ _ v' hv'
      obtain ⟨rfl, hi⟩ := rangeV_inv hv
      have hi' : i + 1 ≤ D.n := by (try dsimp only at hi); (first | lia | omega)
      walk_at "xs"
      refine r_acts (fun _ _ => ⟨_, rfl⟩) h₂ (by (first | lia | omega)) (by (try dsimp only); (first | lia | omega)) (by (try dsimp only); (first | lia | omega)) ?_
      walk_at "xs"
      refine o_div (by decide) (by decide) ?_
      walk_at "xs"
      intro v' x' y' hv hx hy
      refine u_acts h₂ hx hy hv (by (first | lia | omega)) (by (try dsimp only); (first | lia | omega)) (by (try dsimp only); (first | lia | omega)) fun H₃ h₃ e₃ => ?_
      walk_at "xs"
      exact ⟨⟨by walk_at "loc", _, by simp only [List.length_set]; exact hl, h₃, e₂.trans e₃⟩, trivial⟩
    · rintro m₁ H₂ ⟨hm1, acts', hl, h₂, e₂⟩
      walk_at "xs"
      refine o_div (by decide) (by decide) ?_
      walk_at "xs"
      intro v' x' hv hx
      refine w_step _ h₂ hx hv ?_
      have h₃ := h₂.set_dict D.n (D.step.fdiv 1000000 + 1) D.head D.refuted
      walk_at "xs"
      exact q _ acts' _ h₃ hl (e₂.trans (Ext.set (own_d A)))
  · walk_at "xs"
    exact q _ _ D.step h₁ (by simp only [List.length_set]) e₁
end
end
-- Pure
section
/-- the level of a place of the trail -/
def levI (lims : List Nat) (i : Nat) : Nat := (lims.filter fun p => decide (p ≤ i)).length
def Dat.lev (D : Dat) (i : Nat) : Nat := levI D.lims i
def Lit (n : Nat) (l : Int) : Prop := l ≠ 0 ∧ l.natAbs ≤ n
theorem Lit.neg {n : Nat} {l : Int} (h : Lit n l) : Lit n (-l) := ⟨Int.neg_ne_zero.mpr h.1, by rw [Int.natAbs_neg]; exact h.2⟩
def tl (σ : Nat → Bool) (l : Int) : Prop := σ l.natAbs = decide (0 < l)
def Sat (σ : Nat → Bool) (c : List Int) : Prop := ∃ l ∈ c, tl σ l
theorem tl_neg {σ : Nat → Bool} {l : Int} (h : l ≠ 0) : tl σ (-l) ↔ ¬ tl σ l := by
  unfold tl
  rw [Int.natAbs_neg]
  by_cases h1 : 0 < l
  · have h2 : ¬ 0 < -l := by (first | lia | omega)
    rw [decide_eq_true h1, decide_eq_false h2]; simp
  · have h2 : 0 < -l := by (first | lia | omega)
    rw [decide_eq_false h1, decide_eq_true h2]; simp
theorem getD_set_self {α : Type} {l : List α} {i : Nat} {v d : α} (h : i < l.length) : (l.set i v).getD i d = v := by simp [List.getD, h]
theorem getD_set_ne {α : Type} {l : List α} {i j : Nat} {v d : α} (h : i ≠ j) : (l.set i v).getD j d = l.getD j d := by simp [List.getD, List.getElem?_set_ne h]
theorem getD_eq {α : Type} {l : List α} {i : Nat} {d : α} (h : i < l.length) : l.getD i d = l[i] := by simp [List.getD, h]
theorem get?_getD {α : Type} {l : List α} {i : Nat} {v d : α} (h : l[i]? = some v) : l.getD i d = v := by simp [List.getD, h]
theorem natAbs_eq {a b : Int} (h : a.natAbs = b.natAbs) : a = b ∨ a = -b := by (first | lia | omega)
theorem get?_lt {α : Type} {l : List α} {i : Nat} {v : α} (h : l[i]? = some v) : i < l.length := (List.getElem?_eq_some_iff.mp h).1
theorem take_snoc {α : Type} {l : List α} {x : α} {i : Nat} (h : i ≤ l.length) : (l ++ [x]).take i = l.take i := by
  rw [List.take_append_of_le_length h]
theorem get?_snoc {α : Type} {l : List α} {x v : α} {i : Nat} (h : (l ++ [x])[i]? = some v) : l[i]? = some v ∨ (i = l.length ∧ v = x) := by
  have hlt := get?_lt h
  simp only [List.length_append, List.length_singleton] at hlt
  rw [List.getElem?_append] at h
  split at h
  · exact .inl h
  · have e : i = l.length := by (first | lia | omega)
    subst e
    simp at h
    exact .inr ⟨rfl, h.symm⟩
theorem snoc_get? {α : Type} {l : List α} {x v : α} {i : Nat} (h : l[i]? = some v) : (l ++ [x])[i]? = some v := by
  rw [List.getElem?_append_left (get?_lt h)]; exact h
theorem snoc_last {α : Type} {l : List α} {x : α} : (l ++ [x])[l.length]? = some x := by simp

theorem levI_le (lims : List Nat) (i : Nat) : levI lims i ≤ lims.length := List.length_filter_le ..
theorem levI_mono {lims : List Nat} {i j : Nat} (h : i ≤ j) : levI lims i ≤ levI lims j := by
  unfold levI
  induction lims with
  | nil => simp
  | cons p r ih =>
    simp only [List.filter_cons, decide_eq_true_eq]
    split <;> split <;> (try simp only [List.length_cons]) <;> (first | lia | omega)
theorem levI_full {lims : List Nat} {i : Nat} (h : ∀ p ∈ lims, p ≤ i) : levI lims i = lims.length := by
  unfold levI
  rw [List.filter_eq_self.mpr]
  intro p hp; simpa using h p hp
theorem levI_snoc_lt {lims : List Nat} {i p : Nat} (h : i < p) : levI (lims ++ [p]) i = levI lims i := by
  have : ¬ p ≤ i := by (first | lia | omega)
  simp [levI, List.filter_append, this]
theorem levI_lim {lims : List Nat} {i p : Nat} (h : p ∈ lims) (hi : i < p) : levI lims i < levI lims p := by
  unfold levI
  induction lims with
  | nil => cases h
  | cons q r ih =>
    have hm := @levI_mono r i p (by (first | lia | omega))
    unfold levI at hm
    simp only [List.filter_cons, decide_eq_true_eq]
    rcases List.mem_cons.mp h with e | e
    · subst e
      rw [if_neg (by (first | lia | omega)), if_pos (Nat.le_refl _)]
      simp only [List.length_cons]; (first | lia | omega)
    · have := ih e
      split <;> split <;> (try simp only [List.length_cons]) <;> (first | lia | omega)
/-- in a sorted row of limits: the k-th lies at or below i just when the level of i is above k -/
theorem levI_iff {lims : List Nat} (hs : lims.Pairwise (· ≤ ·)) {k i p : Nat} (h : lims[k]? = some p) : k < levI lims i ↔ p ≤ i := by
  unfold levI
  induction lims generalizing k with
  | nil => simp at h
  | cons q r ih =>
    rw [List.pairwise_cons] at hs
    simp only [List.filter_cons, decide_eq_true_eq]
    cases k with
    | zero =>
      simp at h; subst h
      by_cases hq : q ≤ i
      · rw [if_pos hq]; simp [hq]
      · rw [if_neg hq]
        have : r.filter (fun p => decide (p ≤ i)) = [] := by
          rw [List.filter_eq_nil_iff]; intro a ha; have := hs.1 a ha; simp; (first | lia | omega)
        rw [this]; simp; (first | lia | omega)
    | succ k =>
      simp at h
      have hqp : q ≤ p := hs.1 p (List.mem_of_getElem? h)
      have := ih hs.2 h
      by_cases hq : q ≤ i
      · rw [if_pos hq]; simp only [List.length_cons]; rw [← this]; (first | lia | omega)
      · rw [if_neg hq]
        constructor
        · intro hk; exact this.mp (by (first | lia | omega))
        · intro hp; (first | lia | omega)
theorem levI_take {lims : List Nat} (hs : lims.Pairwise (· ≤ ·)) {k i p : Nat} (h : lims[k]? = some p) (hi : i < p) : levI (lims.take k) i = levI lims i := by
  have e : lims = lims.take k ++ lims.drop k := (List.take_append_drop k lims).symm
  have hd : (lims.drop k).filter (fun q => decide (q ≤ i)) = [] := by
    rw [List.filter_eq_nil_iff]
    intro a ha
    obtain ⟨j, hj⟩ := List.getElem?_of_mem ha
    rw [List.getElem?_drop] at hj
    have : p ≤ a := by
      by_cases e0 : j = 0
      · subst e0; rw [Nat.add_zero, h] at hj; exact Nat.le_of_eq (Option.some.inj hj)
      · have h1 := get?_lt h
        have h2 := get?_lt hj
        have := List.pairwise_iff_getElem.mp hs k (k + j) h1 h2 (by (first | lia | omega))
        rw [List.getElem?_eq_getElem h1] at h; rw [List.getElem?_eq_getElem h2] at hj
        rw [Option.some.inj h, Option.some.inj hj] at this; exact this
    simp; (first | lia | omega)
  have : lims.filter (fun q => decide (q ≤ i)) = (lims.take k).filter (fun q => decide (q ≤ i)) := by
    have := congrArg (List.filter fun q => decide (q ≤ i)) e
    rw [List.filter_append, hd, List.append_nil] at this; exact this
  unfold levI
  rw [this]
theorem take_le {lims : List Nat} (hs : lims.Pairwise (· ≤ ·)) {k p : Nat} (h : lims[k]? = some p) : ∀ q ∈ lims.take k, q ≤ p := by
  intro q hq
  obtain ⟨j, hj⟩ := List.getElem?_of_mem hq
  have hj' := get?_lt hj
  rw [List.length_take] at hj'
  rw [List.getElem?_take_of_lt (by (first | lia | omega))] at hj
  have h1 := get?_lt h
  have h2 := get?_lt hj
  have := List.pairwise_iff_getElem.mp hs j k h2 h1 (by (first | lia | omega))
  rw [List.getElem?_eq_getElem h1] at h; rw [List.getElem?_eq_getElem h2] at hj
  rw [Option.some.inj h, Option.some.inj hj] at this; exact this

/-- a place's reason -/
def Reason (M : (Nat → Bool) → Prop) (lims : List Nat) (trail : List Int) (cls : List (List Int)) (i : Nat) (l r : Int) : Prop :=
  (r = -1 ∧ (i ∈ lims ∨ (levI lims i = 0 ∧ ∀ σ, M σ → tl σ l))) ∨ ∃ (k : Nat) (c : List Int), r = (k : Int) ∧ cls[k]? = some c ∧ l ∈ c ∧ ∀ l' ∈ c, l' ≠ l → -l' ∈ trail.take i
structure Core (M : (Nat → Bool) → Prop) (D : Dat) : Prop where
  n1 : 1 ≤ D.n
  n5 : D.n ≤ 5
  lvals : D.vals.length = D.n + 1
  llevs : D.levs.length = D.n + 1
  lreas : D.reas.length = D.n + 1
  lphas : D.phas.length = D.n + 1
  lit : ∀ l ∈ D.trail, Lit D.n l
  nd : (D.trail.map Int.natAbs).Nodup
  vals : ∀ v, 1 ≤ v → v ≤ D.n → D.vals.getD v 0 = if (v : Int) ∈ D.trail then 1 else if -(v : Int) ∈ D.trail then -1 else 0
  phas : ∀ v, 1 ≤ v → v ≤ D.n → D.phas.getD v 0 = 1 ∨ D.phas.getD v 0 = -1
  sorted : D.lims.Pairwise (· ≤ ·)
  levs : ∀ i l, D.trail[i]? = some l → D.levs.getD l.natAbs 0 = D.lev i
  reas : ∀ i l, D.trail[i]? = some l → Reason M D.lims D.trail D.cls i l (D.reas.getD l.natAbs 0)
  clen : ∀ c ∈ D.cls, 2 ≤ c.length
  clit : ∀ c ∈ D.cls, ∀ l ∈ c, Lit D.n l
  cnd : ∀ c ∈ D.cls, (c.map Int.natAbs).Nodup
  imp : ∀ σ, M σ → ∀ c ∈ D.cls, Sat σ c
  conv : ∀ σ, (∀ c ∈ D.cls, Sat σ c) → (∀ i l, D.trail[i]? = some l → D.lev i = 0 → tl σ l) → M σ
theorem nodup_idx {α : Type} {l : List α} (h : l.Nodup) {i j : Nat} {v : α} (h1 : l[i]? = some v) (h2 : l[j]? = some v) : i = j := by
  have a := get?_lt h1
  have b := get?_lt h2
  rw [List.getElem?_eq_getElem a] at h1; rw [List.getElem?_eq_getElem b] at h2
  by_cases e : i = j
  · exact e
  · exfalso
    rcases Nat.lt_or_gt_of_ne e with e | e
    · exact List.pairwise_iff_getElem.mp h i j a b e ((Option.some.inj h1).trans (Option.some.inj h2).symm)
    · exact List.pairwise_iff_getElem.mp h j i b a e ((Option.some.inj h2).trans (Option.some.inj h1).symm)
theorem lit_len {n : Nat} {c : List Int} (h : ∀ l ∈ c, Lit n l) (hn : (c.map Int.natAbs).Nodup) : c.length ≤ n := by
  have h1 : (c.map Int.natAbs).length ≤ (List.range' 1 n).length := by
    apply List.Nodup.length_le_of_subset hn
    intro v hv
    obtain ⟨l, hl, rfl⟩ := List.mem_map.mp hv
    have := h l hl
    rw [List.mem_range'_1]
    unfold Lit at this
    (first | lia | omega)
  simpa using h1
namespace Core
variable {M : (Nat → Bool) → Prop} {D : Dat} (C : Core M D)
include C
theorem idx {i j : Nat} {l l' : Int} (h1 : D.trail[i]? = some l) (h2 : D.trail[j]? = some l') (e : l.natAbs = l'.natAbs) : i = j :=
  nodup_idx C.nd (v := l.natAbs) (by rw [List.getElem?_map, h1]; rfl) (by rw [List.getElem?_map, h2, e]; rfl)
theorem not_both {l : Int} (h1 : l ∈ D.trail) : -l ∉ D.trail := by
  intro h2
  obtain ⟨i, hi⟩ := List.getElem?_of_mem h1
  obtain ⟨j, hj⟩ := List.getElem?_of_mem h2
  have := C.idx hi hj (by simp)
  subst this
  rw [hi] at hj
  have : l = -l := Option.some.inj hj
  have := (C.lit l h1).1
  (first | lia | omega)
theorem val {l : Int} (h : Lit D.n l) : valI D.vals l = if l ∈ D.trail then 1 else if -l ∈ D.trail then -1 else 0 := by
  obtain ⟨h0, hn⟩ := h
  unfold valI
  by_cases hl : l < 0
  · rw [if_pos hl, C.vals _ (by (first | lia | omega)) (by (first | lia | omega))]
    have e : (((-l).toNat : Nat) : Int) = -l := by (first | lia | omega)
    rw [e, Int.neg_neg]
    by_cases h1 : -l ∈ D.trail
    · have h2 : l ∉ D.trail := fun h => C.not_both h h1
      simp [h1, h2]
    · by_cases h2 : l ∈ D.trail <;> simp [h1, h2]
  · rw [if_neg hl, C.vals _ (by (first | lia | omega)) (by (first | lia | omega))]
    have e : ((l.toNat : Nat) : Int) = l := by (first | lia | omega)
    rw [e]
theorem val_pos {l : Int} (h : Lit D.n l) : valI D.vals l = 1 ↔ l ∈ D.trail := by
  rw [C.val h]; by_cases h1 : l ∈ D.trail
  · simp [h1]
  · by_cases h2 : -l ∈ D.trail <;> simp [h1, h2]
theorem val_neg {l : Int} (h : Lit D.n l) : valI D.vals l < 0 ↔ -l ∈ D.trail := by
  rw [C.val h]; by_cases h1 : l ∈ D.trail
  · have := C.not_both h1; simp [h1, this]
  · by_cases h2 : -l ∈ D.trail <;> simp [h1, h2]
theorem val_zero {l : Int} (h : Lit D.n l) : valI D.vals l = 0 ↔ l ∉ D.trail ∧ -l ∉ D.trail := by
  rw [C.val h]; by_cases h1 : l ∈ D.trail
  · simp [h1]
  · by_cases h2 : -l ∈ D.trail <;> simp [h1, h2]
theorem tlen : D.trail.length ≤ D.n := lit_len C.lit C.nd
theorem clen5 {c : List Int} (h : c ∈ D.cls) : c.length ≤ D.n := lit_len (C.clit c h) (C.cnd c h)
/-- a literal is put on the trail -/
theorem assign {l r : Int} (hl : Lit D.n l) (h1 : l ∉ D.trail) (h2 : -l ∉ D.trail) (hp : ∀ p ∈ D.lims, p ≤ D.trail.length) (hr : Reason M D.lims D.trail D.cls D.trail.length l r) : Core M (D.assign l r) := by
  have hne : ∀ l' ∈ D.trail, l'.natAbs ≠ l.natAbs := fun l' h e => by
    rcases natAbs_eq e with e | e
    · exact h1 (e ▸ h)
    · exact h2 (e ▸ h)
  have hmem : ∀ {i : Nat} {l' : Int}, D.trail[i]? = some l' → l' ∈ D.trail := fun h => List.mem_of_getElem? h
  obtain ⟨l0, ln⟩ := hl
  have wk : ∀ {i : Nat} {l' r' : Int}, i ≤ D.trail.length → Reason M D.lims D.trail D.cls i l' r' → Reason M D.lims (D.trail ++ [l]) D.cls i l' r' := by
    intro i l' r' hi h
    unfold Reason at h ⊢
    rw [take_snoc hi]; exact h
  refine { n1 := C.n1, n5 := C.n5, lvals := ?_, llevs := ?_, lreas := ?_, lphas := C.lphas, lit := ?_, nd := ?_, vals := ?_, phas := C.phas, sorted := C.sorted, levs := ?_, reas := ?_, clen := C.clen, clit := C.clit, cnd := C.cnd, imp := C.imp, conv := fun σ h1 h2 => C.conv σ h1 fun i l' hi h0 => h2 i l' (snoc_get? hi) h0 }
  · simp [Dat.assign, C.lvals]
  · simp [Dat.assign, C.llevs]
  · simp [Dat.assign, C.lreas]
  · intro l' h
    simp only [Dat.assign, List.mem_append, List.mem_singleton] at h
    rcases h with h | h
    · exact C.lit l' h
    · subst h; exact ⟨l0, ln⟩
  · simp only [Dat.assign, List.map_append, List.map_cons, List.map_nil]
    rw [List.nodup_append]
    refine ⟨C.nd, by simp, ?_⟩
    intro a ha b hb e
    obtain ⟨l', hl', rfl⟩ := List.mem_map.mp ha
    rw [List.mem_singleton.mp hb] at e
    exact hne l' hl' e
  · intro v hv hn
    simp only [Dat.assign, List.mem_append, List.mem_singleton]
    by_cases e : l.natAbs = v
    · rw [e, getD_set_self (by rw [C.lvals]; (first | lia | omega))]
      by_cases hp : 0 < l
      · have : (v : Int) = l := by (first | lia | omega)
        simp [hp, this]
      · have e1 : -(v : Int) = l := by (first | lia | omega)
        have e2 : ¬ (v : Int) = l := by (first | lia | omega)
        have e3 : (v : Int) ∉ D.trail := fun h => h2 (by rw [← e1]; simpa using h)
        simp [hp, e1, e2, e3]
    · rw [getD_set_ne e, C.vals v hv hn]
      have e1 : ¬ (v : Int) = l := by (first | lia | omega)
      have e2 : ¬ -(v : Int) = l := by (first | lia | omega)
      simp [e1, e2]
  · intro i l' h
    simp only [Dat.assign] at h ⊢
    rcases get?_snoc h with h | ⟨rfl, rfl⟩
    · rw [getD_set_ne (Ne.symm (hne l' (hmem h)))]
      exact C.levs i l' h
    · rw [getD_set_self (by rw [C.llevs]; (first | lia | omega))]
      show (D.lims.length : Int) = (levI D.lims D.trail.length : Int)
      rw [levI_full hp]
  · intro i l' h
    simp only [Dat.assign] at h ⊢
    rcases get?_snoc h with h | ⟨rfl, rfl⟩
    · rw [getD_set_ne (Ne.symm (hne l' (hmem h)))]
      exact wk (Nat.le_of_lt (get?_lt h)) (C.reas i l' h)
    · rw [getD_set_self (by rw [C.lreas]; (first | lia | omega))]
      exact wk (Nat.le_refl _) hr
theorem pop {t : List Int} {l : Int} (ht : D.trail = t ++ [l]) (hl : 1 ≤ D.lev t.length) : Core M { D with trail := t, phas := D.phas.set l.natAbs (D.vals.getD l.natAbs 0), vals := D.vals.set l.natAbs 0 } := by
  have hne : ∀ l' ∈ t, l'.natAbs ≠ l.natAbs := by
    have := C.nd
    rw [ht, List.map_append, List.nodup_append] at this
    intro l' h e
    exact this.2.2 _ (List.mem_map_of_mem h) _ (by simp) e
  have hm : ∀ {l'}, l' ∈ t → l' ∈ D.trail := fun h => by rw [ht]; simp [h]
  have hll : Lit D.n l := C.lit l (by rw [ht]; simp)
  have hg : ∀ {i : Nat} {l' : Int}, t[i]? = some l' → D.trail[i]? = some l' := fun h => by rw [ht]; exact snoc_get? h
  refine { n1 := C.n1, n5 := C.n5, lvals := ?_, llevs := C.llevs, lreas := C.lreas, lphas := ?_, lit := fun l' h => C.lit l' (hm h), nd := ?_, vals := ?_, phas := ?_, sorted := C.sorted, levs := fun i l' h => C.levs i l' (hg h), reas := ?_, clen := C.clen, clit := C.clit, cnd := C.cnd, imp := C.imp, conv := ?_ }
  · simp [C.lvals]
  · simp [C.lphas]
  · have := C.nd; rw [ht, List.map_append, List.nodup_append] at this; exact this.1
  · intro v hv hn
    (try dsimp only at hn ⊢)
    by_cases e : l.natAbs = v
    · have h1 : (v : Int) ∉ t := fun h => hne _ h (by (first | lia | omega))
      have h2 : -(v : Int) ∉ t := fun h => hne _ h (by (first | lia | omega))
      rw [e, getD_set_self (by rw [C.lvals]; (first | lia | omega))]; simp [h1, h2]
    · have e1 : ¬ (v : Int) = l := by (first | lia | omega)
      have e2 : ¬ -(v : Int) = l := by (first | lia | omega)
      rw [getD_set_ne e, C.vals v hv hn, ht]; simp [e1, e2]
  · intro v hv hn
    (try dsimp only at hn ⊢)
    by_cases e : l.natAbs = v
    · rw [e, getD_set_self (by rw [C.lphas]; (first | lia | omega)), C.vals v hv hn]
      by_cases h1 : (v : Int) ∈ D.trail
      · simp [h1]
      · have h2 : -(v : Int) ∈ D.trail := by
          rw [ht]
          have : -(v : Int) = l := by
            rcases natAbs_eq (a := l) (b := v) (by (first | lia | omega)) with h | h
            · exact absurd (by rw [ht, ← h]; simp) h1
            · exact h.symm
          simp [this]
        simp [h1, h2]
    · rw [getD_set_ne e]; exact C.phas v hv hn
  · intro i l' h
    have hi : i < t.length := get?_lt h
    have := C.reas i l' (hg h)
    unfold Reason at this ⊢
    rw [ht, take_snoc (by (first | lia | omega))] at this
    exact this
  · intro σ h1 h2
    refine C.conv σ h1 fun i l' hi h0 => ?_
    rw [ht] at hi
    rcases get?_snoc hi with h | ⟨rfl, rfl⟩
    · exact h2 i l' h h0
    · unfold Dat.lev at h0 hl; (first | lia | omega)
theorem popN {k : Nat} (hk : k ≤ D.trail.length) (hl : ∀ i, D.trail.length - k ≤ i → 1 ≤ D.lev i) : Core M (D.popN k) := by
  induction k with
  | zero => exact C
  | succ k ih =>
    have ih := ih (by (first | lia | omega)) (fun i hi => hl i (by (first | lia | omega)))
    have ps := popN_same D k
    have hlen : (D.popN k).trail.length = D.trail.length - k := by rw [ps.trail, List.length_take]; (first | lia | omega)
    have hne : (D.popN k).trail ≠ [] := fun e => by rw [e] at hlen; simp at hlen; (first | lia | omega)
    obtain ⟨t, l, ht⟩ : ∃ t l, (D.popN k).trail = t ++ [l] := ⟨_, _, (List.dropLast_concat_getLast hne).symm⟩
    have htl : t.length = D.trail.length - (k + 1) := by rw [ht] at hlen; simp at hlen; (first | lia | omega)
    have e : D.popN (k + 1) = { D.popN k with trail := t, phas := (D.popN k).phas.set l.natAbs ((D.popN k).vals.getD l.natAbs 0), vals := (D.popN k).vals.set l.natAbs 0 } := by
      rw [Dat.popN, Dat.pop, ht]; simp
    rw [e]
    refine ih.pop ht ?_
    unfold Dat.lev
    rw [ps.lims, htl]
    exact hl _ (Nat.le_refl _)
/-- a level is opened -/
theorem lim (hp : ∀ p ∈ D.lims, p ≤ D.trail.length) : Core M { D with lims := D.lims ++ [D.trail.length] } := by
  refine { C with sorted := ?_, levs := ?_, reas := ?_, conv := ?_ }
  · rw [List.pairwise_append]
    exact ⟨C.sorted, by simp, fun a ha b hb => by rw [List.mem_singleton.mp hb]; exact hp a ha⟩
  · intro i l h
    rw [C.levs i l h]
    unfold Dat.lev
    rw [levI_snoc_lt (get?_lt h)]
  · intro i l h
    have := C.reas i l h
    unfold Reason at this ⊢
    dsimp only
    rw [levI_snoc_lt (get?_lt h)]
    rcases this with ⟨h1, h2 | h2⟩ | h2
    · exact .inl ⟨h1, .inl (by simp [h2])⟩
    · exact .inl ⟨h1, .inr h2⟩
    · exact .inr h2
  · intro σ h1 h2
    refine C.conv σ h1 fun i l hi h0 => h2 i l hi ?_
    unfold Dat.lev at h0 ⊢
    rw [levI_snoc_lt (get?_lt hi)]; exact h0
/-- levels are closed, after their places -/
theorem cut {lvl p h : Nat} (hp : D.lims[lvl]? = some p) (ht : D.trail.length ≤ p) : Core M { D with lims := D.lims.take lvl, head := h } := by
  have hi : ∀ {i : Nat} {l : Int}, D.trail[i]? = some l → levI (D.lims.take lvl) i = levI D.lims i := fun hi => levI_take C.sorted hp (by have := get?_lt hi; (first | lia | omega))
  refine { C with sorted := List.Pairwise.sublist (List.take_sublist ..) C.sorted, levs := ?_, reas := ?_, conv := ?_ }
  · intro i l h
    rw [C.levs i l h]
    unfold Dat.lev
    rw [hi h]
  · intro i l h
    have := C.reas i l h
    unfold Reason at this ⊢
    dsimp only
    rw [hi h]
    rcases this with ⟨h1, h2 | h2⟩ | h2
    · refine .inl ⟨h1, .inl ?_⟩
      obtain ⟨j, hj⟩ := List.getElem?_of_mem h2
      have : j < lvl := by
        by_cases e : j < lvl
        · exact e
        · exfalso
          have a := get?_lt hp
          have b := get?_lt hj
          have c : i < D.trail.length := get?_lt h
          have : D.lims[lvl] ≤ D.lims[j] := by
            by_cases e' : lvl = j
            · subst e'; exact Nat.le_refl _
            · exact List.pairwise_iff_getElem.mp C.sorted lvl j a b (by (first | lia | omega))
          rw [List.getElem?_eq_getElem a] at hp; rw [List.getElem?_eq_getElem b] at hj
          rw [Option.some.inj hp, Option.some.inj hj] at this; (first | lia | omega)
      exact List.mem_of_getElem? (i := j) (by rw [List.getElem?_take_of_lt this]; exact hj)
    · exact .inl ⟨h1, .inr h2⟩
    · exact .inr h2
  · intro σ h1 h2
    refine C.conv σ h1 fun i l hi' h0 => h2 i l hi' ?_
    unfold Dat.lev at h0 ⊢
    dsimp only
    rw [hi hi']; exact h0
/-- levels are taken back -/
theorem cancel {lvl p : Nat} (hp : D.lims[lvl]? = some p) (hl : p ≤ D.trail.length) : Core M (D.cancel lvl) := by
  have hlt := get?_lt hp
  have hg : D.lims.getD lvl 0 = p := get?_getD hp
  rw [Dat.cancel, if_neg (by (first | lia | omega)), hg]
  have ps := popN_same D (D.trail.length - p)
  have := C.popN (k := D.trail.length - p) (by (first | lia | omega)) (fun i hi => by
    have := (levI_iff C.sorted hp (i := i)).mpr (by rw [Nat.sub_sub_self hl] at hi; exact hi)
    unfold Dat.lev; (first | lia | omega))
  have := this.cut (lvl := lvl) (p := p) (h := p) (by rw [ps.lims]; exact hp) (by rw [ps.trail, List.length_take, Nat.sub_sub_self hl]; exact Nat.min_le_left _ _)
  rw [ps.lims] at this
  exact this
/-- a clause's literals change places -/
theorem perm {k : Nat} {c c' : List Int} (hk : D.cls[k]? = some c) (hc : c'.Perm c) : Core M { D with cls := D.cls.set k c' } := by
  have hkl := get?_lt hk
  have hcm := List.mem_of_getElem? hk
  have mem : ∀ {x}, x ∈ D.cls.set k c' → x ∈ D.cls ∨ x = c' := fun h => List.mem_or_eq_of_mem_set h
  refine { C with reas := ?_, clen := ?_, clit := ?_, cnd := ?_, imp := ?_, conv := ?_ }
  · intro i l h
    have := C.reas i l h
    unfold Reason at this ⊢
    dsimp only
    rcases this with h1 | ⟨k', c₁, h1, h2, h3, h4⟩
    · exact .inl h1
    · by_cases e : k' = k
      · subst e
        rw [hk] at h2; cases h2
        exact .inr ⟨k', c', h1, by rw [List.getElem?_set_self hkl], hc.mem_iff.mpr h3, fun l' h => h4 l' (hc.mem_iff.mp h)⟩
      · exact .inr ⟨k', c₁, h1, by rw [List.getElem?_set_ne (Ne.symm e)]; exact h2, h3, h4⟩
  · intro x h
    rcases mem h with h | rfl
    · exact C.clen x h
    · rw [hc.length_eq]; exact C.clen c hcm
  · intro x h
    rcases mem h with h | rfl
    · exact C.clit x h
    · exact fun l hl => C.clit c hcm l (hc.mem_iff.mp hl)
  · intro x h
    rcases mem h with h | rfl
    · exact C.cnd x h
    · exact (hc.map _).nodup_iff.mpr (C.cnd c hcm)
  · intro σ hσ x h
    rcases mem h with h | rfl
    · exact C.imp σ hσ x h
    · obtain ⟨l, hl, ht⟩ := C.imp σ hσ c hcm
      exact ⟨l, hc.mem_iff.mpr hl, ht⟩
  · intro σ h1 h2
    refine C.conv σ (fun x hx => ?_) h2
    obtain ⟨j, hj⟩ := List.getElem?_of_mem hx
    by_cases e : j = k
    · subst e
      rw [hk] at hj; cases hj
      obtain ⟨l, hl, ht⟩ := h1 c' (List.mem_of_getElem? (i := j) (by dsimp only; rw [List.getElem?_set_self hkl]))
      exact ⟨l, hc.mem_iff.mp hl, ht⟩
    · exact h1 x (List.mem_of_getElem? (i := j) (by dsimp only; rw [List.getElem?_set_ne (Ne.symm e)]; exact hj))
/-- a further clause, and fewer models -/
theorem add {M' : (Nat → Bool) → Prop} {c : List Int} (hM : ∀ σ, M' σ → M σ) (h2 : 2 ≤ c.length) (hl : ∀ l ∈ c, Lit D.n l) (hn : (c.map Int.natAbs).Nodup) (hi : ∀ σ, M' σ → Sat σ c)
    (hv : ∀ σ, M σ → Sat σ c → (∀ i l, D.trail[i]? = some l → D.lev i = 0 → tl σ l) → M' σ) : Core M' { D with cls := D.cls ++ [c] } := by
  have mem : ∀ {x}, x ∈ D.cls ++ [c] → x ∈ D.cls ∨ x = c := fun h => by simpa using h
  refine { C with reas := ?_, clen := ?_, clit := ?_, cnd := ?_, imp := ?_, conv := ?_ }
  · intro i l h
    have := C.reas i l h
    unfold Reason at this ⊢
    dsimp only
    rcases this with ⟨h1, h2 | ⟨h2, h3⟩⟩ | ⟨k', c₁, h1, h2, h3, h4⟩
    · exact .inl ⟨h1, .inl h2⟩
    · exact .inl ⟨h1, .inr ⟨h2, fun σ hσ => h3 σ (hM σ hσ)⟩⟩
    · exact .inr ⟨k', c₁, h1, snoc_get? h2, h3, h4⟩
  · intro x h; rcases mem h with h | rfl
    · exact C.clen x h
    · exact h2
  · intro x h; rcases mem h with h | rfl
    · exact C.clit x h
    · exact hl
  · intro x h; rcases mem h with h | rfl
    · exact C.cnd x h
    · exact hn
  · intro σ hσ x h; rcases mem h with h | rfl
    · exact C.imp σ (hM σ hσ) x h
    · exact hi σ hσ
  · intro σ h1 h3
    have hs : ∀ i l, D.trail[i]? = some l → D.lev i = 0 → tl σ l := h3
    exact hv σ (C.conv σ (fun x hx => h1 x (by simp [hx])) hs) (h1 c (by simp)) hs
theorem models {M' : (Nat → Bool) → Prop} (hM : ∀ σ, M' σ → M σ) (hv : ∀ σ, M σ → (∀ i l, D.trail[i]? = some l → D.lev i = 0 → tl σ l) → M' σ) : Core M' D := by
  refine { C with reas := ?_, imp := fun σ hσ => C.imp σ (hM σ hσ), conv := fun σ h1 h2 => hv σ (C.conv σ h1 h2) h2 }
  intro i l h
  have := C.reas i l h
  unfold Reason at this ⊢
  rcases this with ⟨h1, h2 | ⟨h2, h3⟩⟩ | h
  · exact .inl ⟨h1, .inl h2⟩
  · exact .inl ⟨h1, .inr ⟨h2, fun σ hσ => h3 σ (hM σ hσ)⟩⟩
  · exact .inr h
/-- what is on the trail follows from the clauses and the decisions -/
theorem follow {m : Nat} {σ : Nat → Bool} (hσ : M σ) (hd : ∀ i l, D.trail[i]? = some l → i ∈ D.lims → D.lev i ≤ m → tl σ l) : ∀ i l, D.trail[i]? = some l → D.lev i ≤ m → tl σ l := by
  intro i
  induction i using Nat.strongRecOn with
  | _ i ih =>
    intro l hl hm
    rcases C.reas i l hl with ⟨_, h | ⟨_, h⟩⟩ | ⟨k, c, _, hk, hlc, hot⟩
    · exact hd i l hl h hm
    · exact h σ hσ
    · obtain ⟨l', hl', ht⟩ := C.imp σ hσ c (List.mem_of_getElem? hk)
      by_cases e : l' = l
      · exact e ▸ ht
      · exfalso
        obtain ⟨j, hj⟩ := List.getElem?_of_mem (hot l' hl' e)
        have hji : j < i := by have := get?_lt hj; rw [List.length_take] at this; (first | lia | omega)
        rw [List.getElem?_take_of_lt hji] at hj
        have := ih j hji _ hj (Nat.le_trans (levI_mono (Nat.le_of_lt hji)) hm)
        exact (tl_neg (C.clit c (List.mem_of_getElem? hk) l' hl').1).mp this ht
end Core
end
-- Pure2
section
structure Wat (D : Dat) (R : Nat → List Nat) : Prop where
  nd : ∀ j, (R j).Nodup
  lt : ∀ j, ∀ k ∈ R j, k < D.cls.length
  ex : ∀ l, Lit D.n l → ∀ k c, D.cls[k]? = some c → (k ∈ R (slotN l) ↔ (c.getD 0 0 = l ∨ c.getD 1 0 = l))
def Wd (c : List Int) (a b : Int) : Prop := (c.getD 0 0 = a ∧ c.getD 1 0 = b) ∨ (c.getD 0 0 = b ∧ c.getD 1 0 = a)
def WS (D : Dat) (h : Nat → Nat) : Prop := ∀ k c, D.cls[k]? = some c → ∀ a b, Wd c a b → ∀ i, i < h k → D.trail[i]? = some (-a) → ∃ j, D.trail[j]? = some b ∧ D.lev j ≤ D.lev i
theorem slotN_inj {a b : Int} (h : slotN a = slotN b) : a = b := by
  unfold slotN slotI at h
  split at h <;> split at h <;> (first | lia | omega)
theorem WS.mono {D : Dat} {h h' : Nat → Nat} (w : WS D h) (hh : ∀ k, h' k ≤ h k) : WS D h' := fun k c hk a b hab i hi ht => w k c hk a b hab i (Nat.lt_of_lt_of_le hi (hh k)) ht
theorem WS.assign {D : Dat} {h : Nat → Nat} (w : WS D h) (hh : ∀ k, h k ≤ D.trail.length) (l r : Int) : WS (D.assign l r) h := by
  intro k c hk a b hab i hi ht
  rcases get?_snoc ht with ht | ⟨rfl, _⟩
  · obtain ⟨j, h1, h2⟩ := w k c hk a b hab i hi ht
    exact ⟨j, snoc_get? h1, h2⟩
  · exact absurd hi (by have := hh k; (first | lia | omega))
theorem WS.lim {D : Dat} {h : Nat → Nat} (w : WS D h) : WS { D with lims := D.lims ++ [D.trail.length] } h := by
  intro k c hk a b hab i hi ht
  obtain ⟨j, h1, h2⟩ := w k c hk a b hab i hi ht
  refine ⟨j, h1, ?_⟩
  unfold Dat.lev at h2 ⊢
  rw [levI_snoc_lt (get?_lt h1), levI_snoc_lt (get?_lt ht)]; exact h2
/-- the solver between two deeds, its clauses not refuted -/
structure Good (M : (Nat → Bool) → Prop) (D : Dat) : Prop where
  core : Core M D
  wl : D.wat.length = 2 * D.n + 2
  wat : Wat D (fun j => D.wat.getD j [])
  ws : WS D (fun _ => D.head)
  lh : ∀ p ∈ D.lims, p ≤ D.head
  ht : D.head ≤ D.trail.length
theorem lims_ge {lims : List Nat} (hs : lims.Pairwise (· ≤ ·)) {k i p : Nat} (h : lims[k]? = some p) (hi : levI lims i ≤ k) : i < p := by
  have := (levI_iff hs h (i := i))
  (first | lia | omega)
theorem popN_rest (D : Dat) : ∀ k, (D.popN k).wat = D.wat ∧ (D.popN k).cls = D.cls ∧ (D.popN k).learned = D.learned ∧ (D.popN k).refuted = D.refuted ∧ (D.popN k).found = D.found ∧ (D.popN k).acts = D.acts ∧ (D.popN k).levs = D.levs ∧ (D.popN k).reas = D.reas ∧ (D.popN k).step = D.step
  | 0 => ⟨rfl, rfl, rfl, rfl, rfl, rfl, rfl, rfl, rfl⟩
  | k + 1 => by
    obtain ⟨h1, h2, h3, h4, h5, h6, h7, h8, h9⟩ := popN_rest D k
    rw [Dat.popN, Dat.pop]
    split
    · exact ⟨h1, h2, h3, h4, h5, h6, h7, h8, h9⟩
    · exact ⟨h1, h2, h3, h4, h5, h6, h7, h8, h9⟩
structure CancelSame (D D' : Dat) (lvl p : Nat) : Prop where
  trail : D'.trail = D.trail.take p
  lims : D'.lims = D.lims.take lvl
  head : D'.head = p
  n : D'.n = D.n
  wat : D'.wat = D.wat
  cls : D'.cls = D.cls
  learned : D'.learned = D.learned
  refuted : D'.refuted = D.refuted
  found : D'.found = D.found
  acts : D'.acts = D.acts
  levs : D'.levs = D.levs
  reas : D'.reas = D.reas
  vals : D'.vals.length = D.vals.length
  phas : D'.phas.length = D.phas.length
  step : D'.step = D.step
theorem cancel_same {D : Dat} {lvl p : Nat} (hp : D.lims[lvl]? = some p) (hl : p ≤ D.trail.length) : CancelSame D (D.cancel lvl) lvl p := by
  have hlt := get?_lt hp
  have hg : D.lims.getD lvl 0 = p := get?_getD hp
  rw [Dat.cancel, if_neg (by (first | lia | omega)), hg]
  have ps := popN_same D (D.trail.length - p)
  obtain ⟨h1, h2, h3, h4, h5, h6, h7, h8, h9⟩ := popN_rest D (D.trail.length - p)
  refine ⟨?_, rfl, rfl, ps.n, h1, h2, h3, h4, h5, h6, h7, h8, ps.vals, ps.phas, h9⟩
  (try dsimp only)
  rw [ps.trail]; congr 1; exact Nat.sub_sub_self hl
theorem cancel_triv {D : Dat} {lvl : Nat} (h : D.lims.length ≤ lvl) : D.cancel lvl = D := by rw [Dat.cancel, if_pos h]
theorem Good.cancel {M : (Nat → Bool) → Prop} {D : Dat} {h₀ lvl p : Nat} (C : Core M D) (wl : D.wat.length = 2 * D.n + 2) (W : Wat D (fun j => D.wat.getD j [])) (S : WS D (fun _ => h₀)) (hp : D.lims[lvl]? = some p) (h1 : p ≤ h₀) (h2 : p ≤ D.trail.length) : Good M (D.cancel lvl) := by
  have cs := cancel_same hp h2
  refine ⟨C.cancel hp h2, by rw [cs.wat, cs.n]; exact wl, ?_, ?_, ?_, ?_⟩
  · rw [cs.wat]
    exact ⟨W.nd, fun j k hk => by rw [cs.cls]; exact W.lt j k hk, fun l hl k c hk => W.ex l (by rw [cs.n] at hl; exact hl) k c (by rw [cs.cls] at hk; exact hk)⟩
  · intro k c hk a b hab i hi ht
    have hi : i < p := by rw [← cs.head]; exact hi
    rw [cs.cls] at hk
    rw [cs.trail, List.getElem?_take_of_lt hi] at ht
    obtain ⟨j, hj, hle⟩ := S k c hk a b hab i (show i < h₀ by (first | lia | omega)) ht
    have hjp : j < p := lims_ge C.sorted hp (by
      have : ¬ lvl < levI D.lims i := fun h => by have := (levI_iff C.sorted hp).mp h; (first | lia | omega)
      unfold Dat.lev at hle; (first | lia | omega))
    refine ⟨j, by rw [cs.trail, List.getElem?_take_of_lt hjp]; exact hj, ?_⟩
    unfold Dat.lev at hle ⊢
    rw [cs.lims, levI_take C.sorted hp hi, levI_take C.sorted hp hjp]; exact hle
  · rw [cs.lims, cs.head]; exact take_le C.sorted hp
  · rw [cs.head, cs.trail, List.length_take]; (first | lia | omega)
theorem Good.lim {M : (Nat → Bool) → Prop} {D : Dat} (G : Good M D) (h : D.head = D.trail.length) : Good M { D with lims := D.lims ++ [D.trail.length] } :=
  ⟨G.core.lim (fun p hp => Nat.le_trans (G.lh p hp) G.ht), G.wl, ⟨G.wat.nd, G.wat.lt, G.wat.ex⟩, G.ws.lim, fun p hp => by
    rcases List.mem_append.mp hp with hp | hp
    · exact G.lh p hp
    · rw [List.mem_singleton.mp hp]; exact Nat.le_of_eq h.symm, G.ht⟩
theorem Good.assign {M : (Nat → Bool) → Prop} {D : Dat} (G : Good M D) {l r : Int} (hl : Lit D.n l) (h1 : l ∉ D.trail) (h2 : -l ∉ D.trail) (hr : Reason M D.lims D.trail D.cls D.trail.length l r) : Good M (D.assign l r) :=
  ⟨G.core.assign hl h1 h2 (fun p hp => Nat.le_trans (G.lh p hp) G.ht) hr, G.wl, ⟨G.wat.nd, G.wat.lt, G.wat.ex⟩, G.ws.assign (fun _ => G.ht) l r, G.lh, by
    have := G.ht; show D.head ≤ (D.trail ++ [l]).length; simp; (first | lia | omega)⟩
theorem Good.decide {M : (Nat → Bool) → Prop} {D : Dat} (G : Good M D) (h : D.head = D.trail.length) {l : Int} (hl : Lit D.n l) (h1 : l ∉ D.trail) (h2 : -l ∉ D.trail) : Good M (({ D with lims := D.lims ++ [D.trail.length] } : Dat).assign l (-1)) :=
  (G.lim h).assign hl h1 h2 (.inl ⟨rfl, .inl (by simp)⟩)
theorem nodup_snoc {α : Type} {l : List α} {x : α} (h : l.Nodup) (hx : x ∉ l) : (l ++ [x]).Nodup := by
  rw [List.nodup_append]
  exact ⟨h, by simp, fun a ha b hb e => hx (by rw [List.mem_singleton.mp hb] at e; exact e ▸ ha)⟩
theorem Wat.attach {D : Dat} {c : List Int} (W : Wat D (fun j => D.wat.getD j [])) (wl : D.wat.length = 2 * D.n + 2) (h0 : Lit D.n (c.getD 0 0)) (h1 : Lit D.n (c.getD 1 0)) (hne : c.getD 0 0 ≠ c.getD 1 0) : Wat (D.attach c) (fun j => (D.attach c).wat.getD j []) := by
  have s0 : slotN (c.getD 0 0) < D.wat.length := by rw [wl]; exact slotN_lt h0.2
  have s1 : slotN (c.getD 1 0) < D.wat.length := by rw [wl]; exact slotN_lt h1.2
  have hs : slotN (c.getD 0 0) ≠ slotN (c.getD 1 0) := fun e => hne (slotN_inj e)
  have rowI : ∀ j, (D.attach c).wat.getD j [] = if j = slotN (c.getD 0 0) ∨ j = slotN (c.getD 1 0) then D.wat.getD j [] ++ [D.cls.length] else D.wat.getD j [] := by
    intro j
    simp only [Dat.attach, Dat.push]
    by_cases e1 : slotN (c.getD 1 0) = j
    · rw [if_pos (.inr e1.symm), ← e1, getD_set_self (by rw [List.length_set]; (first | lia | omega)), getD_set_ne hs]
    · rw [getD_set_ne e1]
      by_cases e0 : slotN (c.getD 0 0) = j
      · rw [if_pos (.inl e0.symm), ← e0, getD_set_self (by (first | lia | omega))]
      · rw [getD_set_ne e0, if_neg (fun h => h.elim (fun h => e0 h.symm) (fun h => e1 h.symm))]
  have new : ∀ j, D.cls.length ∉ D.wat.getD j [] := fun j h => by have := W.lt j _ h; (first | lia | omega)
  refine ⟨fun j => ?_, fun j k hk => ?_, fun l hl k c' hk => ?_⟩
  · rw [rowI]; split
    · exact nodup_snoc (W.nd j) (new j)
    · exact W.nd j
  · show k < (D.cls ++ [c]).length
    rw [rowI] at hk
    simp only [List.length_append, List.length_singleton]
    split at hk
    · rcases List.mem_append.mp hk with hk | hk
      · have := W.lt j k hk; (first | lia | omega)
      · rw [List.mem_singleton.mp hk]; (first | lia | omega)
    · have := W.lt j k hk; (first | lia | omega)
  · (try dsimp only)
    rw [rowI]
    rcases get?_snoc hk with hk | ⟨rfl, rfl⟩
    · have := W.ex l hl k c' hk
      have hkl := get?_lt hk
      have hn : k ≠ D.cls.length := by (first | lia | omega)
      split
      · rw [List.mem_append, this, List.mem_singleton]; simp [hn]
      · exact this
    · split
      · rename_i h
        simp only [List.mem_append, List.mem_singleton, or_true, true_iff]
        rcases h with h | h
        · exact .inl (slotN_inj h).symm
        · exact .inr (slotN_inj h).symm
      · rename_i h
        constructor
        · intro h'; exact absurd h' (new _)
        · rintro (rfl | rfl)
          · exact absurd (.inl rfl) h
          · exact absurd (.inr rfl) h
theorem getD_mem {c : List Int} {i : Nat} (h : i < c.length) : c.getD i 0 ∈ c := by rw [getD_eq h]; exact List.getElem_mem h
theorem nd_01 {c : List Int} (h : 2 ≤ c.length) (hn : (c.map Int.natAbs).Nodup) : c.getD 0 0 ≠ c.getD 1 0 := by
  intro e
  have := nodup_idx hn (i := 0) (j := 1) (v := (c.getD 0 0).natAbs) (by rw [List.getElem?_map, getD_get (d := 0) (by (first | lia | omega))]; rfl) (by rw [List.getElem?_map, getD_get (d := 0) (by (first | lia | omega)), e]; rfl)
  (first | lia | omega)
theorem WS.attach {D : Dat} {h : Nat → Nat} {c : List Int} (w : WS D h) (hc : ∀ a b, Wd c a b → ∀ i, i < h D.cls.length → D.trail[i]? = some (-a) → ∃ j, D.trail[j]? = some b ∧ D.lev j ≤ D.lev i) : WS (D.attach c) h := by
  intro k c' hk a b hab i hi ht
  rcases get?_snoc hk with hk | ⟨rfl, rfl⟩
  · exact w k c' hk a b hab i hi ht
  · exact hc a b hab i hi ht
/-- propagation, while the row of the false literal f (at the place h₀ of the trail) is gone through -/
structure PV (M : (Nat → Bool) → Prop) (D : Dat) (h₀ : Nat) (f : Int) (kept suf : List Nat) : Prop where
  core : Core M D
  wl : D.wat.length = 2 * D.n + 2
  wat : Wat D (fun j => if j = slotN f then kept ++ suf else D.wat.getD j [])
  fl : Lit D.n f
  tr : D.trail[h₀]? = some (-f)
  lh : ∀ p ∈ D.lims, p ≤ h₀
  ws : WS D (fun k => if k ∈ suf then h₀ else h₀ + 1)
namespace PV
variable {M : (Nat → Bool) → Prop} {D : Dat} {h₀ : Nat} {f w : Int} {kept s : List Nat} {k : Nat}
theorem start {l : Int} (G : Good M D) (h : D.trail[D.head]? = some l) : PV M { D with head := D.head + 1 } D.head (-l) [] (D.wat.getD (slotN (-l)) []) := by
  have hl : Lit D.n l := G.core.lit l (List.mem_of_getElem? h)
  have hl' : Lit D.n (-l) := hl.neg
  have e : (fun j => if j = slotN (-l) then [] ++ D.wat.getD (slotN (-l)) [] else D.wat.getD j []) = fun j => D.wat.getD j [] := by
    funext j; split
    · rename_i h; rw [h]; rfl
    · rfl
  refine ⟨{ G.core with }, G.wl, ?_, hl', by rw [Int.neg_neg]; exact h, G.lh, ?_⟩
  · rw [e]; exact ⟨G.wat.nd, G.wat.lt, G.wat.ex⟩
  · intro k c hk a b hab i hi ht
    (try dsimp only at hi)
    by_cases hi' : i < D.head
    · exact G.ws k c hk a b hab i hi' ht
    · exfalso
      split at hi
      · (first | lia | omega)
      · rename_i hn
        have ei : i = D.head := by (first | lia | omega)
        subst ei
        have : l = -a := Option.some.inj (h.symm.trans ht)
        have ea : a = -l := by (first | lia | omega)
        refine hn ((G.wat.ex _ hl' k c hk).mpr ?_)
        rcases hab with ⟨h1, _⟩ | ⟨_, h1⟩
        · exact .inl (h1.trans ea)
        · exact .inr (h1.trans ea)
theorem stop (P : PV M D h₀ f kept []) (hd : D.head = h₀ + 1) : Good M { D with wat := D.wat.set (slotN f) kept } := by
  have hlt : slotN f < D.wat.length := by rw [P.wl]; exact slotN_lt P.fl.2
  have e : (fun j => (D.wat.set (slotN f) kept).getD j []) = fun j => if j = slotN f then kept ++ [] else D.wat.getD j [] := by
    funext j
    by_cases h : slotN f = j
    · subst h; rw [getD_set_self hlt, if_pos rfl, List.append_nil]
    · rw [getD_set_ne h, if_neg (Ne.symm h)]
  have ht := get?_lt P.tr
  refine ⟨{ P.core with }, by simp [P.wl], ?_, ?_, fun p hp => by have := P.lh p hp; dsimp only; (first | lia | omega), by dsimp only; (first | lia | omega)⟩
  · dsimp only; rw [e]; exact ⟨P.wat.nd, P.wat.lt, P.wat.ex⟩
  · intro k c hk a b hab i hi ht
    refine P.ws k c hk a b hab i ?_ ht
    simp; dsimp only at hi; (first | lia | omega)
theorem lev_top (P : PV M D h₀ f kept s) (j : Nat) : D.lev j ≤ D.lev h₀ := by
  unfold Dat.lev
  rw [levI_full P.lh]; exact levI_le ..
theorem neg_mem (P : PV M D h₀ f kept s) : -f ∈ D.trail := List.mem_of_getElem? P.tr
theorem not_mem (P : PV M D h₀ f kept s) : f ∉ D.trail := fun h => P.core.not_both h P.neg_mem
theorem k_lt (P : PV M D h₀ f kept (k :: s)) : k < D.cls.length := P.wat.lt (slotN f) k (by simp)
theorem k_notin (P : PV M D h₀ f kept (k :: s)) : k ∉ kept ∧ k ∉ s := by
  have := P.wat.nd (slotN f)
  rw [if_pos rfl, List.nodup_append, List.nodup_cons] at this
  exact ⟨fun h => this.2.2 k h k (by simp) rfl, this.2.1.1⟩
theorem front (P : PV M D h₀ f kept (k :: s)) {c : List Int} (hk : D.cls[k]? = some c) : (c.getD 0 0 = f ∨ c.getD 1 0 = f) ∧ 2 ≤ c.length :=
  ⟨(P.wat.ex f P.fl k c hk).mp (by simp), P.core.clen c (List.mem_of_getElem? hk)⟩
/-- the watched literals change places -/
theorem swap (P : PV M D h₀ f kept s) {x y : Int} {t : List Int} (hk : D.cls[k]? = some (x :: y :: t)) : PV M { D with cls := D.cls.set k (y :: x :: t) } h₀ f kept s := by
  have hkl := get?_lt hk
  refine ⟨P.core.perm hk (List.Perm.swap ..), P.wl, ⟨P.wat.nd, fun j k' h => by dsimp only; rw [List.length_set]; exact P.wat.lt j k' h, fun l hl k' c hc => ?_⟩, P.fl, P.tr, P.lh, fun k' c hc a b hab i hi ht => ?_⟩
  · (try dsimp only at hc)
    by_cases e : k' = k
    · subst e
      rw [List.getElem?_set_self hkl] at hc; cases hc
      have := P.wat.ex l hl k' _ hk
      dsimp only at this ⊢
      rw [this]; exact Or.comm
    · rw [List.getElem?_set_ne (Ne.symm e)] at hc
      exact P.wat.ex l hl k' c hc
  · (try dsimp only at hc)
    by_cases e : k' = k
    · subst e
      rw [List.getElem?_set_self hkl] at hc; cases hc
      refine P.ws k' _ hk a b ?_ i hi ht
      rcases hab with ⟨h1, h2⟩ | ⟨h1, h2⟩
      · exact .inr ⟨h2, h1⟩
      · exact .inl ⟨h2, h1⟩
    · rw [List.getElem?_set_ne (Ne.symm e)] at hc
      exact P.ws k' c hc a b hab i hi ht
/-- the clause keeps its watch: its other watched literal is true -/
theorem keep (P : PV M D h₀ f kept (k :: s)) {t : List Int} (hk : D.cls[k]? = some (w :: f :: t)) (hw : w ∈ D.trail) : PV M D h₀ f (kept ++ [k]) s := by
  refine ⟨P.core, P.wl, ?_, P.fl, P.tr, P.lh, ?_⟩
  · have : (kept ++ [k]) ++ s = kept ++ k :: s := by simp
    rw [this]; exact P.wat
  · intro k' c hc a b hab i hi ht
    (try dsimp only at hi)
    by_cases e : k' = k
    · subst e
      rw [hk] at hc; cases hc
      obtain ⟨j, hj⟩ := List.getElem?_of_mem hw
      rcases hab with ⟨h1, h2⟩ | ⟨h1, h2⟩
      · simp at h1 h2; subst h1; subst h2
        exact absurd (List.mem_of_getElem? ht) (P.core.not_both hw)
      · simp at h1 h2; subst h1; subst h2
        have := P.core.idx ht P.tr (by simp)
        subst this
        exact ⟨j, hj, P.lev_top j⟩
    · refine P.ws k' c hc a b hab i ?_ ht
      simp only [List.mem_cons, e, false_or]; exact hi
theorem assign (P : PV M D h₀ f kept s) {t : List Int} (hk : D.cls[k]? = some (w :: f :: t)) (h1 : w ∉ D.trail) (h2 : -w ∉ D.trail) (ht : ∀ l ∈ t, -l ∈ D.trail) : PV M (D.assign w k) h₀ f kept s := by
  have hlt := get?_lt P.tr
  have hm := List.mem_of_getElem? hk
  refine ⟨P.core.assign (P.core.clit _ hm w (by simp)) h1 h2 (fun p hp => by have := P.lh p hp; (first | lia | omega)) (.inr ⟨k, _, rfl, hk, by simp, fun l' hl' hne => ?_⟩), P.wl, ⟨P.wat.nd, P.wat.lt, P.wat.ex⟩, P.fl, snoc_get? P.tr, P.lh, P.ws.assign (fun k' => by split <;> (first | lia | omega)) _ _⟩
  rw [List.take_length]
  rcases List.mem_cons.mp hl' with h | h
  · exact absurd h hne
  · rcases List.mem_cons.mp h with h | h
    · rw [h]; exact P.neg_mem
    · exact ht l' h
theorem perm_move {f x : Int} : ∀ {t : List Int} {j : Nat}, t[j]? = some x → (x :: t.set j f).Perm (f :: t)
  | [], j, h => by simp at h
  | y :: t, 0, h => by simp at h; subst h; exact List.Perm.swap ..
  | y :: t, j + 1, h => by
    have ih := perm_move (f := f) (t := t) (j := j) (by simpa using h)
    simp only [List.set_cons_succ]
    exact ((List.Perm.swap y x _).trans (ih.cons y)).trans (List.Perm.swap f y t)
/-- the clause watches another literal -/
theorem move (P : PV M D h₀ f kept (k :: s)) {t : List Int} {j : Nat} {x : Int} (hk : D.cls[k]? = some (w :: f :: t)) (hj : t[j]? = some x) (hx : -x ∉ D.trail) : PV M (({ D with cls := D.cls.set k (w :: x :: t.set j f) } : Dat).push (slotN x) k) h₀ f kept s := by
  have hkl := get?_lt hk
  have hm := List.mem_of_getElem? hk
  have hxm : x ∈ w :: f :: t := by simp [List.mem_of_getElem? hj]
  have hxl := P.core.clit _ hm x hxm
  have hxf : x ≠ f := fun e => hx (e ▸ P.neg_mem)
  have hcn := P.core.cnd _ hm
  simp only [List.map_cons, List.nodup_cons, List.mem_cons, List.mem_map, not_or] at hcn
  have hxw : x ≠ w := fun e => hcn.1.2 ⟨x, List.mem_of_getElem? hj, by rw [e]⟩
  have hwf : w ≠ f := fun e => hcn.1.1 (by rw [e])
  have hwl : Lit D.n w := P.core.clit _ hm w (by simp)
  have sx : slotN x < D.wat.length := by rw [P.wl]; exact slotN_lt hxl.2
  have sxf : slotN x ≠ slotN f := fun e => hxf (slotN_inj e)
  obtain ⟨kn1, kn2⟩ := P.k_notin
  have hkx : k ∉ D.wat.getD (slotN x) [] := by
    intro h
    have := (P.wat.ex x hxl k _ hk).mp (by rw [if_neg sxf]; exact h)
    simp at this
    rcases this with h | h
    · exact hxw h.symm
    · exact hxf h.symm
  refine ⟨{ P.core.perm hk ((perm_move hj).cons w) with }, by simp [Dat.push, P.wl], ⟨fun j' => ?_, fun j' k' h => ?_, fun l hl k' c hc => ?_⟩, P.fl, P.tr, P.lh, fun k' c hc a b hab i hi ht => ?_⟩
  · (try dsimp only)
    split
    · have := P.wat.nd (slotN f)
      rw [if_pos rfl] at this
      exact List.Nodup.sublist (List.Sublist.append (List.Sublist.refl _) (List.sublist_cons_self ..)) this
    · rename_i hne
      simp only [Dat.push]
      have := P.wat.nd j'
      rw [if_neg hne] at this
      by_cases e : slotN x = j'
      · subst e; rw [getD_set_self sx]; exact nodup_snoc this hkx
      · rw [getD_set_ne e]; exact this
  · simp only [Dat.push, List.length_set]
    (try dsimp only at h)
    split at h
    · refine P.wat.lt (slotN f) k' ?_
      rw [if_pos rfl]
      rcases List.mem_append.mp h with h | h <;> simp [h]
    · rename_i hne
      simp only [Dat.push] at h
      by_cases e : slotN x = j'
      · subst e; rw [getD_set_self sx] at h
        rcases List.mem_append.mp h with h | h
        · exact P.wat.lt (slotN x) k' (by rw [if_neg hne]; exact h)
        · rw [List.mem_singleton.mp h]; exact hkl
      · rw [getD_set_ne e] at h; exact P.wat.lt j' k' (by rw [if_neg hne]; exact h)
  · simp only [Dat.push] at hc ⊢
    by_cases e : k' = k
    · subst e
      rw [List.getElem?_set_self hkl] at hc; cases hc
      have old := P.wat.ex l hl k' _ hk
      simp at old ⊢
      by_cases el : slotN l = slotN f
      · have := slotN_inj el; subst this
        simp [kn1, kn2, hwf, hxf]
      · rw [if_neg el] at old ⊢
        by_cases ex : slotN x = slotN l
        · have := slotN_inj ex; subst this
          rw [← List.getD_eq_getElem?_getD, getD_set_self sx]; simp
        · have hxl' : x ≠ l := fun e => ex (by rw [e])
          have hfl' : f ≠ l := fun e => el (by rw [e])
          rw [← List.getD_eq_getElem?_getD, getD_set_ne ex, List.getD_eq_getElem?_getD, old]
          simp [hxl', hfl']
    · rw [List.getElem?_set_ne (Ne.symm e)] at hc
      have old := P.wat.ex l hl k' c hc
      rw [← old]
      (try dsimp only)
      split
      · simp [e]
      · by_cases ex : slotN x = slotN l
        · rw [← ex, getD_set_self sx]; simp [e]
        · rw [getD_set_ne ex]
  · simp only [Dat.push] at hc ht ⊢
    (try dsimp only at hi)
    by_cases e : k' = k
    · subst e
      rw [List.getElem?_set_self hkl] at hc; cases hc
      exfalso
      rcases hab with ⟨h1, h2⟩ | ⟨h1, h2⟩
      · simp at h1 h2; subst h1; subst h2
        by_cases hi' : i < h₀
        · obtain ⟨j', h3, _⟩ := P.ws k' _ hk w f (.inl ⟨rfl, rfl⟩) i (by simp; exact hi') ht
          exact P.not_mem (List.mem_of_getElem? h3)
        · have : i = h₀ := by rw [if_neg kn2] at hi; (first | lia | omega)
          subst this
          have : -f = -w := Option.some.inj (P.tr.symm.trans ht)
          exact hwf (by (first | lia | omega))
      · simp at h1 h2; subst h1; subst h2
        exact hx (List.mem_of_getElem? ht)
    · rw [List.getElem?_set_ne (Ne.symm e)] at hc
      refine P.ws k' c hc a b hab i ?_ ht
      simp only [List.mem_cons, e, false_or]; exact hi
end PV
end
-- W6
section
set_option compiler.extract_closed false
section
variable {KF : Params → Frag} {a : Amb KF} {A : Around} {L : Addr} {m : Loc} {H : AHeap} {env : Env} {Q : Value → AHeap → Prop}
theorem o_item_tup {v i : Expr} {l : Addr} {vs : List Value} {k : Int} {x : Value} (hp : PlainSub v i) (h : H l = some (.tuple vs)) (h0 : 0 ≤ k) (hx : vs[k.toNat]? = some x) (hs : vs.length < 2 ^ 60) (q : Q x H) :
    O2 a A L m (subscriptTail v i) (.ref l) (vi k) H Q := by
  intro x' y' h1 h2
  rw [er_ref h1]
  obtain ⟨t, rfl⟩ := er_int h2
  intro s S
  obtain ⟨its, n, hl, e⟩ := S.tuple h
  obtain ⟨y, hy, rfl⟩ := item_of e hx
  have hlt := (List.getElem?_eq_some_iff.mp hx).1
  have hsz := size_of e
  have ht : IsTup s.heap l its := ⟨_, hl, rfl, _, rfl⟩
  exact subTail hp ht.typeIs slot_tuple_getitem.lookup (PyProof.Rows.getItem_tuple ht (by (first | lia | omega)) (by (first | lia | omega)) (seqIndex_of h0 (by (first | lia | omega))) hy ⟨H, S, Step.refl .., q⟩)
theorem o_item_tupN {α : Type} {v i : Expr} {l : Addr} {vs : List α} {f : α → Value} {k : Nat} (d : α) (hp : PlainSub v i) (h : H l = some (.tuple (vs.map f))) (hk : k < vs.length) (hs : vs.length < 2 ^ 60) (q : Q (f (vs.getD k d)) H) :
    O2 a A L m (subscriptTail v i) (.ref l) (vi (k : Int)) H Q := o_item_tup hp h (Int.natCast_nonneg _) (map_get (d := d) hk) (by rw [List.length_map]; exact hs) q
theorem s_if_join {c : Expr} {x y rest : List Stmt} {pos : Pos} {QS : Flow → Loc → AHeap → Prop} (P : Loc → AHeap → Prop) (h : JS a A L m (exec (.If c x y pos) env) H (onNext P QS))
    (k : ∀ m' H', P m' H' → JS a A L m' (execs rest env) H' QS) : JS a A L m (execs (.If c x y pos :: rest) env) H QS :=
  s_cons (h.mono fun fl m' H' q => by cases fl <;> first | exact k _ _ q | exact q)
end
section
variable {a : Amb hd.heap_39} {A₀ : Around} {L : Addr} {m : Loc} {H : AHeap} {Q : Value → AHeap → Prop} {x : Addr} {A : Ad} {D : Dat}
theorem assume_c {T : Addr} {As : List Int} (h : SolAt H x A D) (z : Sz D) (hT : H T = some (.tuple (As.map vi))) (ho : ¬ Own A T) (hA : As.length ≤ 50) (hl : ∀ l ∈ As, l.natAbs ≤ D.n) (hR : Rm A₀ 2)
    (q : ∀ H' k r, SolAt H' x A { D with lims := D.lims ++ List.replicate k D.trail.length } → Ext A H A H' → (k = 0 ∨ D.lims.length + k ≤ As.length) → (∀ i l, D.lims.length ≤ i → i < D.lims.length + k → As[i]? = some l → valI D.vals l = 1) →
      ((r = 0 ∧ As.length ≤ D.lims.length + k) ∨ (As[D.lims.length + k]? = some r ∧ valI D.vals r ≠ 1)) → Q (vi r) H') : CA a A₀ L m (.ref 166) [.ref x, .ref T] H Q := by
  refine c_def2 (p := Str.ofString "self") (q := Str.ofString "assumptions") (at_assume _) (cd_assume _) hR (fun _ _ => by with_unfolding_all rfl) (by decide) (by decide) (fun L' A' R' => ?_)
  have zn := z.n
  have zv := z.vals
  have zl := z.lims
  have zt := z.trail
  walk_at "xs"
  refine s_while (fun j m₁ H₁ => ∃ k, j = As.length - (D.lims.length + k) ∧ m₁ (Str.ofString "self") = some (.ref x) ∧ m₁ (Str.ofString "assumptions") = some (.ref T) ∧ SolAt H₁ x A { D with lims := D.lims ++ List.replicate k D.trail.length } ∧ Ext A H A H₁ ∧ (k = 0 ∨ D.lims.length + k ≤ As.length) ∧ (∀ i l, D.lims.length ≤ i → i < D.lims.length + k → As[i]? = some l → valI D.vals l = 1)) (As.length - D.lims.length) ⟨0, rfl, by walk_at "loc", by walk_at "loc", by simpa using h, Ext.refl _ _, .inl rfl, fun i l h1 h2 => absurd h2 (by (first | lia | omega))⟩ ?_
  rintro j m₁ H₁ ⟨k, rfl, hm1, hm2, h₁, e₁, hk, hv⟩
  have hlen : ({ D with lims := D.lims ++ List.replicate k D.trail.length } : Dat).lims.length = D.lims.length + k := by simp
  walk_at "xs"
  refine CA.oc (level_c h₁ (by (first | lia | omega)) (R'.le (by (first | lia | omega))) ?_)
  rw [hlen]
  walk_at "xs"
  refine c_len_tuple (e₁ T _ hT ho).1 (by rw [List.length_map]; (first | lia | omega)) ?_
  rw [List.length_map]
  walk_at "xs"
  refine ite_d (fun hlt => ?_) (fun hlt => ?_)
  · walk_at "xs"
    refine CA.oc (level_c h₁ (by (first | lia | omega)) (R'.le (by (first | lia | omega))) ?_)
    rw [hlen]
    have hki : D.lims.length + k < As.length := by (first | lia | omega)
    refine o_item_tupN 0 (fun _ _ => ⟨_, rfl⟩) (e₁ T _ hT ho).1 (by (first | lia | omega)) (by (first | lia | omega)) ?_
    have hmem : As.getD (D.lims.length + k) 0 ∈ As := by simp [List.getD, hki]
    have hsome : As[D.lims.length + k]? = some (As.getD (D.lims.length + k) 0) := getD_get hki
    have hla := hl _ hmem
    generalize As.getD (D.lims.length + k) 0 = r at *
    walk_at "xs"
    refine CA.oc (value_c h₁ (by (try dsimp only); (first | lia | omega)) (by (try dsimp only); (first | lia | omega)) (R'.le (by (first | lia | omega))) ?_)
    walk_at "xs"
    refine ite_n (fun hn => ?_) (fun hn => ?_)
    · walk_at "xs"
      exact q H₁ k r h₁ e₁ hk hv (.inr ⟨hsome, hn⟩)
    · walk_at "xs"
      refine app_lims h₁ ?_
      walk_at "xs"
      refine c_len_list h₁.trail (by rw [List.length_map]; (try dsimp only); (first | lia | omega)) ?_
      rw [List.length_map]
      refine ⟨_, rfl, rfl, by rw [hlen]; (first | lia | omega), fun H₂ h₂ e₂ => ?_⟩
      walk_at "xs"
      refine ⟨As.length - (D.lims.length + (k + 1)), by (first | lia | omega), k + 1, rfl, by walk_at "loc", by walk_at "loc", ?_, e₁.trans e₂, .inr (by (first | lia | omega)), fun i l h1 h2 h3 => ?_⟩
      · rw [List.replicate_succ', ← List.append_assoc]; exact h₂
      · by_cases e : i = D.lims.length + k
        · subst e; rw [hsome] at h3; cases h3; exact hn
        · exact hv i l h1 (by (first | lia | omega)) h3
  · walk_at "xs"
    exact q H₁ k 0 h₁ e₁ hk hv (.inl ⟨rfl, by (first | lia | omega)⟩)
theorem set_same_get {α : Type} {l : List α} {i : Nat} {v : α} (h : l[i]? = some v) : l.set i v = l := by
  apply List.ext_getElem?
  intro j
  by_cases e : j = i
  · subst e; rw [List.getElem?_set_self (List.getElem?_eq_some_iff.mp h).1, h]
  · rw [List.getElem?_set_ne (Ne.symm e)]
end
end
-- W7
section
set_option compiler.extract_closed false
section
variable {a : Amb hd.heap_39} {A₀ : Around} {L : Addr} {m : Loc} {H : AHeap} {Q : Value → AHeap → Prop} {x : Addr} {A : Ad} {D : Dat}
theorem still_watched_c {k : Nat} {c t : List Int} {f w : Int} (h : SolAt H x A D) (z : Sz D) (hk : D.cls[k]? = some c) (hc : c = f :: w :: t ∨ (c = w :: f :: t ∧ w ≠ f)) (hR : Rm A₀ 2)
    (q1 : ∀ H', SolAt H' x A { D with cls := D.cls.set k (w :: f :: t) } → Ext A H A H' → (valI D.vals w = 1 ∨ ∀ l ∈ t, valI D.vals l < 0) → Q (vb true) H')
    (q2 : ∀ H' j y, t[j]? = some y → valI D.vals w ≠ 1 → 0 ≤ valI D.vals y → SolAt H' x A (({ D with cls := D.cls.set k (w :: y :: t.set j f) } : Dat).push (slotN y) k) → Ext A H A H' → Q (vb false) H') : CA a A₀ L m (.ref 124) [.ref x, vn k, vi f] H Q := by
  refine c_def3 (p := Str.ofString "self") (q := Str.ofString "number") (r := Str.ofString "false") (at_still_watched _) (cd_still_watched _) hR (fun _ _ _ => by with_unfolding_all rfl) (by decide) (by decide) (fun L' A' R' => ?_)
  have zn := z.n
  have zv := z.vals
  have zc := z.cls
  have hkl := (List.getElem?_eq_some_iff.mp hk).1
  obtain ⟨zc1, zc2⟩ := z.cl c (List.mem_of_getElem? hk)
  have zw : w.natAbs ≤ D.n := (z.lit c (List.mem_of_getElem? hk) w (by rcases hc with rfl | ⟨rfl, _⟩ <;> simp)).2
  have ztl : ∀ l ∈ t, l.natAbs ≤ D.n := fun l hl => (z.lit c (List.mem_of_getElem? hk) l (by rcases hc with rfl | ⟨rfl, _⟩ <;> simp [hl])).2
  have zlen : t.length + 2 = c.length := by rcases hc with rfl | ⟨rfl, _⟩ <;> simp
  walk_at "xs"
  refine r_cls (fun _ _ => ⟨_, rfl⟩) h (by (first | lia | omega)) (by (first | lia | omega)) (by (first | lia | omega)) fun l hl => ?_
  rw [Int.toNat_natCast] at hl
  have hl0 : H l = some (.list (c.map vi)) := h.cl k l _ hl hk
  walk_at "x2"
  try dsimp only [onNext, turnEnd, retOf]
  refine s_if_join (fun m' H' => m' (Str.ofString "self") = some (.ref x) ∧ m' (Str.ofString "number") = some (vn k) ∧ m' (Str.ofString "false") = some (vi f) ∧ m' (Str.ofString "clause") = some (.ref l) ∧ SolAt H' x A { D with cls := D.cls.set k (w :: f :: t) } ∧ Ext A H A H') ?_ ?_
  · walk_at "xs"
    refine o_item (fun _ _ => ⟨_, rfl⟩) hl0 (by (first | lia | omega)) (map_get (i := 0) (d := 0) (by (first | lia | omega))) (by simp; (first | lia | omega)) ?_
    walk_at "xs"
    refine ite_e (fun e => ?_) (fun e => ?_)
    · have hcw : c = f :: w :: t := by
        rcases hc with h | ⟨rfl, hne⟩
        · exact h
        · exact absurd e hne
      subst hcw
      walk_at "xs"
      refine o_item (fun _ _ => ⟨_, rfl⟩) hl0 (by (first | lia | omega)) (map_get (i := 1) (d := 0) (by (first | lia | omega))) (by simp; (first | lia | omega)) ?_
      walk_at "xs"
      intro v' x' y' hv hx hy
      refine u_setI hx hy hv hl0 (by (first | lia | omega)) (by simp; (first | lia | omega)) (by simp; (first | lia | omega)) ?_
      have h₁ := h.set_cl hl (w :: w :: t)
      have hl1 : (H.set l (.list ((w :: w :: t).map vi))) l = some (.list ((w :: w :: t).map vi)) := AHeap.set_same ..
      walk_at "xs"
      intro v' x' y' hv hx hy
      refine u_setI hx hy hv hl1 (by (first | lia | omega)) (by simp; (first | lia | omega)) (by simp; (first | lia | omega)) ?_
      have h₂ := h₁.set_cl hl (w :: f :: t)
      walk_at "xs"
      refine ⟨by walk_at "loc", by walk_at "loc", by walk_at "loc", by walk_at "loc", ?_, (Ext.set (own_cl hl)).trans (Ext.set (own_cl hl))⟩
      simpa using h₂
    · have hcw : c = w :: f :: t := by
        rcases hc with rfl | ⟨h, hne⟩
        · exact absurd rfl e
        · exact h
      subst hcw
      walk_at "xs"
      refine ⟨by walk_at "loc", by walk_at "loc", by walk_at "loc", by walk_at "loc", ?_, Ext.refl _ _⟩
      rw [set_same_get hk]; exact h
  · rintro m₁ H₁ ⟨hm1, hm2, hm3, hm4, h₁, e₁⟩
    have hk1 : (D.cls.set k (w :: f :: t))[k]? = some (w :: f :: t) := List.getElem?_set_self hkl
    have hl1 : H₁ l = some (.list ((w :: f :: t).map vi)) := h₁.cl k l _ hl hk1
    walk_at "xs"
    refine o_item (fun _ _ => ⟨_, rfl⟩) hl1 (by (first | lia | omega)) (map_get (i := 0) (d := 0) (by simp)) (by simp; (first | lia | omega)) ?_
    show JX _ _ _ _ _ _ _ _ _
    walk_at "xs"
    refine CA.oc (value_c (l := w) h₁ (by (try dsimp only); (first | lia | omega)) (by (try dsimp only); (first | lia | omega)) (R'.le (by (first | lia | omega))) ?_)
    walk_at "xs"
    refine ite_e (fun e => ?_) (fun e => ?_)
    · walk_at "xs"
      exact q1 _ h₁ e₁ (.inl e)
    · walk_at "xs"
      refine s_for (fun _ => rfl) (fun _ _ => rfl) R'.handled ?_
      walk_at "xs"
      refine c_len_list hl1 (by simp; (first | lia | omega)) ?_
      walk_at "xs"
      refine c_range2 fun R hR => ?_
      have h₂ := h₁.beside (c := .range 2 ((List.map vi (w :: f :: t)).length : Int)) hR
      have e₂ := e₁.trans (Ext.fresh (c := .range 2 ((List.map vi (w :: f :: t)).length : Int)) hR)
      have hl2 : (H₁.set R (.range 2 ((List.map vi (w :: f :: t)).length : Int))) l = some (.list ((w :: f :: t).map vi)) := h₂.cl k l _ hl hk1
      have hlm : ((List.map vi (w :: f :: t)).length : Int) = t.length + 2 := by simp; (first | lia | omega)
      refine ⟨_, _, fun i m₂ H₂ => m₂ (Str.ofString "self") = some (.ref x) ∧ m₂ (Str.ofString "number") = some (vn k) ∧ m₂ (Str.ofString "false") = some (vi f) ∧ m₂ (Str.ofString "clause") = some (.ref l) ∧ H₂ = H₁.set R (.range 2 ((List.map vi (w :: f :: t)).length : Int)) ∧ ∀ j y, j < i → t[j]? = some y → valI D.vals y < 0,
        .range (AHeap.set_same ..) (natAbs_small (by (first | lia | omega)) (by (first | lia | omega))) (natAbs_small (by (first | lia | omega)) (by (first | lia | omega))), ⟨by walk_at "loc", by walk_at "loc", by walk_at "loc", by walk_at "loc", rfl, fun j y h => absurd h (by (first | lia | omega))⟩, ?_, ?_⟩
      · rintro i v m₂ H₂ hv ⟨hm1, hm2, hm3, hm4, rfl, hall⟩ _ v' hv'
        obtain ⟨rfl, hi⟩ := rangeV_inv hv
        have hit : i < t.length := by (first | lia | omega)
        walk_at "xs"
        refine o_item (fun _ _ => ⟨_, rfl⟩) hl2 (by (first | lia | omega)) (map_get (d := 0) (by simp only [List.length_cons]; (first | lia | omega))) (by simp only [List.length_map, List.length_cons]; (first | lia | omega)) ?_
        have ety : (w :: f :: t).getD (2 + (i : Int)).toNat 0 = t.getD i 0 := by
          rw [show (2 + (i : Int)).toNat = i + 2 by (first | lia | omega)]; rfl
        rw [ety]
        have hty : t[i]? = some (t.getD i 0) := getD_get hit
        have zy := ztl _ (List.mem_of_getElem? hty)
        generalize t.getD i 0 = y at *
        walk_at "xs"
        refine CA.oc (value_c (l := y) h₂ (by (try dsimp only); (first | lia | omega)) (by (try dsimp only); (first | lia | omega)) (R'.le (by (first | lia | omega))) ?_)
        walk_at "xs"
        refine ite_d (fun hg => ?_) (fun hg => ?_)
        · walk_at "xs"
          refine o_item (fun _ _ => ⟨_, rfl⟩) hl2 (by (first | lia | omega)) (map_get (d := 0) (by simp; (first | lia | omega))) (by simp; (first | lia | omega)) ?_
          rw [ety]
          walk_at "xs"
          intro v' x' y' hv hx hy
          refine u_setI hx hy hv hl2 (by (first | lia | omega)) (by simp; (first | lia | omega)) (by simp; (first | lia | omega)) ?_
          rw [show (w :: f :: t).set (Int.toNat 1) y = w :: y :: t from rfl]
          have h₃ := h₂.set_cl hl (w :: y :: t)
          have hl3 := AHeap.set_same (H₁.set R (.range 2 ((List.map vi (w :: f :: t)).length : Int))) l (.list ((w :: y :: t).map vi))
          walk_at "xs"
          intro v' x' y' hv hx hy
          refine u_setI hx hy hv hl3 (by (first | lia | omega)) (by simp; (first | lia | omega)) (by simp; (first | lia | omega)) ?_
          have h₄ := h₃.set_cl hl (w :: y :: t.set i f)
          have hl4 := AHeap.set_same ((H₁.set R (.range 2 ((List.map vi (w :: f :: t)).length : Int))).set l (.list ((w :: y :: t).map vi))) l (.list ((w :: y :: t.set i f).map vi))
          have e₄ := (e₂.trans (Ext.set (c := .list ((w :: y :: t).map vi)) (own_cl hl))).trans (Ext.set (c := .list ((w :: y :: t.set i f).map vi)) (own_cl hl))
          rw [show (2 + (i : Int)).toNat = i + 2 by (first | lia | omega), show (w :: y :: t).set (i + 2) f = w :: y :: t.set i f from rfl]
          walk_at "xs"
          refine o_item (fun _ _ => ⟨_, rfl⟩) hl4 (by (first | lia | omega)) (map_get (l := w :: y :: t.set i f) (i := 1) (d := 0) (by simp only [List.length_cons]; (first | lia | omega))) (by simp; (first | lia | omega)) ?_
          show JX _ _ _ _ _ _ _ _ _
          walk_at "xs"
          refine CA.oc (slot_c (l := y) (R'.le (by (first | lia | omega))) ?_)
          have s0 := slotI_nonneg y
          have s1 := slotI_lt zy
          have zwl := z.wat
          refine r_wat (fun _ _ => ⟨_, rfl⟩) h₄ s0 (by (try dsimp only); (first | lia | omega)) (by (try dsimp only); (first | lia | omega)) fun b₀ hb₀ => ?_
          refine app_row h₄ hb₀ ?_
          walk_at "xs"
          refine ⟨_, rfl, rfl, by have := row_bound z (slotI y).toNat; (try dsimp only); (first | lia | omega), fun H₅ h₅ e₅ => ?_⟩
          walk_at "xs"
          refine q2 H₅ i y hty e hg ?_ (e₄.trans e₅)
          simpa [Dat.push, slotN] using h₅
        · walk_at "xs"
          refine ⟨⟨by walk_at "loc", by walk_at "loc", by walk_at "loc", by walk_at "loc", rfl, fun j y' hj hy => ?_⟩, trivial⟩
          by_cases ej : j = i
          · subst ej; rw [hty] at hy; cases hy; (first | lia | omega)
          · exact hall j y' (by (first | lia | omega)) hy
      · rintro m₂ H₂ ⟨hm1, hm2, hm3, hm4, rfl, hall⟩
        rw [rangeV_length] at hall
        walk_at "xs"
        refine q1 _ h₂ e₂ (.inr fun y hy => ?_)
        obtain ⟨j, hj⟩ := List.getElem?_of_mem hy
        exact hall j y (by have := (List.getElem?_eq_some_iff.mp hj).1; (first | lia | omega)) hj
end
end
-- W8
section
set_option compiler.extract_closed false
/-- what propagation keeps -/
structure Grow (D D' : Dat) : Prop where
  n : D'.n = D.n
  phas : D'.phas = D.phas
  learned : D'.learned = D.learned
  refuted : D'.refuted = D.refuted
  found : D'.found = D.found
  acts : D'.acts = D.acts
  step : D'.step = D.step
  lims : D'.lims = D.lims
  cls : D'.cls.length = D.cls.length
  pre : ∃ e, D'.trail = D.trail ++ e
theorem Grow.refl (D : Dat) : Grow D D := ⟨rfl, rfl, rfl, rfl, rfl, rfl, rfl, rfl, rfl, [], by simp⟩
theorem Grow.trans {D D' D'' : Dat} (g : Grow D D') (g' : Grow D' D'') : Grow D D'' :=
  ⟨g'.n.trans g.n, g'.phas.trans g.phas, g'.learned.trans g.learned, g'.refuted.trans g.refuted, g'.found.trans g.found, g'.acts.trans g.acts, g'.step.trans g.step, g'.lims.trans g.lims, g'.cls.trans g.cls, by
    obtain ⟨e, h⟩ := g.pre
    obtain ⟨e', h'⟩ := g'.pre
    exact ⟨e ++ e', by rw [h', h, List.append_assoc]⟩⟩
structure Bd (D : Dat) : Prop where
  lims : D.lims.length ≤ 90
  cls : D.cls.length ≤ 1900
  learned : D.learned.length ≤ 1900
  found : D.found.length = D.n + 1
  acts : D.acts.length = D.n + 1
theorem Bd.grow {D D' : Dat} (b : Bd D) (g : Grow D D') : Bd D' := ⟨by rw [g.lims]; exact b.lims, by rw [g.cls]; exact b.cls, by rw [g.learned]; exact b.learned, by rw [g.found, g.n]; exact b.found, by rw [g.acts, g.n]; exact b.acts⟩
theorem row_len {l : List Nat} {n : Nat} (h : l.Nodup) (hn : ∀ k ∈ l, k < n) : l.length ≤ n := by
  have := List.Nodup.length_le_of_subset h (l₂ := List.range n) (fun k hk => List.mem_range.mpr (hn k hk))
  simpa using this
theorem sz_of {M : (Nat → Bool) → Prop} {D : Dat} (C : Core M D) (b : Bd D) (wl : D.wat.length = 2 * D.n + 2) (hr : ∀ j, (D.wat.getD j []).length ≤ 4000) : Sz D where
  n := C.n5
  vals := C.lvals
  levs := C.llevs
  reas := C.lreas
  phas := C.lphas
  acts := b.acts
  found := b.found
  wat := wl
  lims := by have := b.lims; (first | lia | omega)
  trail := by have := C.tlen; have := C.n5; (first | lia | omega)
  cls := by have := b.cls; (first | lia | omega)
  learned := by have := b.learned; (first | lia | omega)
  row := fun r hr' => by
    obtain ⟨i, hi⟩ := List.getElem?_of_mem hr'
    have := hr i
    rw [get?_getD hi] at this; exact this
  cl := fun c hc => ⟨by have := C.clen5 hc; have := C.n5; (first | lia | omega), C.clen c hc⟩
  lit := fun c hc l hl => C.clit c hc l hl
theorem Good.sz {M : (Nat → Bool) → Prop} {D : Dat} (G : Good M D) (b : Bd D) : Sz D := sz_of G.core b G.wl fun j => by
  have := row_len (G.wat.nd j) (G.wat.lt j); have := b.cls; (first | lia | omega)
theorem rows_of {D : Dat} {s : Nat} {r : List Nat} (W : Wat D (fun j => if j = s then r else D.wat.getD j [])) (b : D.cls.length ≤ 1900) (hs : (D.wat.getD s []).length ≤ 4000) : ∀ j, (D.wat.getD j []).length ≤ 4000 := fun j => by
  by_cases e : j = s
  · rw [e]; exact hs
  · have := row_len (W.nd j) (W.lt j)
    rw [if_neg e] at this; (first | lia | omega)
/-- a clause has failed -/
structure Cf (M : (Nat → Bool) → Prop) (D : Dat) (h₀ : Nat) (f : Int) (row : List Nat) (k : Nat) : Prop where
  core : Core M D
  wl : D.wat.length = 2 * D.n + 2
  wat : Wat D (fun j => if j = slotN f then row else D.wat.getD j [])
  fl : Lit D.n f
  tr : D.trail[h₀]? = some (-f)
  lh : ∀ p ∈ D.lims, p ≤ h₀
  ws : WS D (fun _ => h₀)
  cl : ∃ c, D.cls[k]? = some c ∧ f ∈ c ∧ ∀ l ∈ c, -l ∈ D.trail
theorem PV.cf {M : (Nat → Bool) → Prop} {D : Dat} {h₀ : Nat} {f w : Int} {kept s t : List _} {k : Nat} (P : PV M D h₀ f kept (k :: s)) (hk : D.cls[k]? = some (w :: f :: t)) (hw : -w ∈ D.trail) (ht : ∀ l ∈ t, -l ∈ D.trail) : Cf M D h₀ f (kept ++ k :: s) k :=
  ⟨P.core, P.wl, P.wat, P.fl, P.tr, P.lh, P.ws.mono (fun _ => by split <;> (first | lia | omega)), _, hk, by simp, fun l hl => by
    rcases List.mem_cons.mp hl with h | h
    · rw [h]; exact hw
    · rcases List.mem_cons.mp h with h | h
      · rw [h]; exact P.neg_mem
      · exact ht l h⟩
/-- the same, the row stored -/
structure Conf (M : (Nat → Bool) → Prop) (D : Dat) (h₀ : Nat) (k : Nat) : Prop where
  core : Core M D
  wl : D.wat.length = 2 * D.n + 2
  wat : Wat D (fun j => D.wat.getD j [])
  ws : WS D (fun _ => h₀)
  lh : ∀ p ∈ D.lims, p ≤ h₀
  cl : ∃ c f, D.cls[k]? = some c ∧ f ∈ c ∧ D.trail[h₀]? = some (-f) ∧ ∀ l ∈ c, -l ∈ D.trail
theorem Cf.stop {M : (Nat → Bool) → Prop} {D : Dat} {h₀ : Nat} {f : Int} {row : List Nat} {k : Nat} (P : Cf M D h₀ f row k) : Conf M { D with wat := D.wat.set (slotN f) row } h₀ k := by
  have hlt : slotN f < D.wat.length := by rw [P.wl]; exact slotN_lt P.fl.2
  have e : (fun j => (D.wat.set (slotN f) row).getD j []) = fun j => if j = slotN f then row else D.wat.getD j [] := by
    funext j
    by_cases h : slotN f = j
    · subst h; rw [getD_set_self hlt, if_pos rfl]
    · rw [getD_set_ne h, if_neg (Ne.symm h)]
  obtain ⟨c, h1, h2, h3⟩ := P.cl
  refine ⟨{ P.core with }, by simp [P.wl], ?_, P.ws, P.lh, c, f, h1, h2, P.tr, h3⟩
  (try dsimp only); rw [e]; exact ⟨P.wat.nd, P.wat.lt, P.wat.ex⟩
theorem Conf.sz {M : (Nat → Bool) → Prop} {D : Dat} {h₀ k : Nat} (G : Conf M D h₀ k) (b : Bd D) : Sz D := sz_of G.core b G.wl fun j => by
  have := row_len (G.wat.nd j) (G.wat.lt j); have := b.cls; (first | lia | omega)
theorem grow_cls (D : Dat) (k : Nat) (c : List Int) : Grow D { D with cls := D.cls.set k c } := ⟨rfl, rfl, rfl, rfl, rfl, rfl, rfl, rfl, by simp, [], by simp⟩
theorem grow_assign (D : Dat) (l r : Int) : Grow D (D.assign l r) := ⟨rfl, rfl, rfl, rfl, rfl, rfl, rfl, rfl, rfl, [l], rfl⟩
theorem grow_push (D : Dat) (j i : Nat) : Grow D (D.push j i) := ⟨rfl, rfl, rfl, rfl, rfl, rfl, rfl, rfl, rfl, [], by simp [Dat.push]⟩
theorem drop_cons {α : Type} {l : List α} {i : Nat} {v : α} (h : l[i]? = some v) : l.drop i = v :: l.drop (i + 1) := by
  have hi := (List.getElem?_eq_some_iff.mp h).1
  rw [List.drop_eq_getElem_cons hi]
  rw [List.getElem?_eq_getElem hi] at h
  rw [Option.some.inj h]
section
variable {a : Amb hd.heap_39} {A₀ : Around} {L : Addr} {m : Loc} {H : AHeap} {Q : Value → AHeap → Prop} {x : Addr} {A : Ad} {D : Dat} {M : (Nat → Bool) → Prop}
/-- the loop's state -/
structure LoopI (M : (Nat → Bool) → Prop) (x : Addr) (A : Ad) (D : Dat) (H : AHeap) (Kp : Addr) (h₀ : Nat) (f : Int) (rw : List Nat) (i : Nat) (cf : Int) (H₂ : AHeap) (D₂ : Dat) (kept : List Nat) : Prop where
  sol : SolAt H₂ x A D₂
  kp : H₂ Kp = some (.list (kept.map vn))
  ext : ExtX (· = Kp) A H A H₂
  grow : Grow D D₂
  head : D₂.head = h₀ + 1
  row : D₂.wat.getD (slotN f) [] = rw
  st : (cf = -1 ∧ PV M D₂ h₀ f kept (rw.drop i)) ∨ ∃ k : Nat, cf = (k : Int) ∧ Cf M D₂ h₀ f (kept ++ rw.drop i) k
end
end
-- Pure3
section
/-- the state of the analysis of a conflict -/
structure AV (M : (Nat → Bool) → Prop) (D : Dat) (S : List Bool) (rest : List Int) (O : List Nat) (pl : Nat) : Prop where
  len : S.length = D.n + 1
  pll : pl ≤ D.trail.length
  ond : O.Nodup
  om : ∀ i, i ∈ O ↔ (i < pl ∧ D.lev i = D.lims.length ∧ ∃ l, D.trail[i]? = some l ∧ S.getD l.natAbs false = true)
  rst : ∀ l ∈ rest, Lit D.n l ∧ S.getD l.natAbs false = true ∧ ∃ i, D.trail[i]? = some (-l) ∧ 0 < D.lev i ∧ D.lev i < D.lims.length
  restc : ∀ i l, D.trail[i]? = some l → D.lev i < D.lims.length → S.getD l.natAbs false = true → -l ∈ rest
  rnd : (rest.map Int.natAbs).Nodup
  mkd : ∀ i l, i < D.trail.length → D.trail[i]? = some l → S.getD l.natAbs false = true → 0 < D.lev i
/-- what is yet to be resolved with the literal sk -/
def Res (M : (Nat → Bool) → Prop) (D : Dat) (rest : List Int) (O : List Nat) (P : (Nat → Bool) → Prop) : Prop :=
  ∀ σ, M σ → (∃ l ∈ rest, tl σ l) ∨ (∃ i ∈ O, ∃ l, D.trail[i]? = some l ∧ tl σ (-l)) ∨ P σ
theorem getD_set_true {S : List Bool} {v w : Nat} (hv : v < S.length) : (S.set v true).getD w false = true ↔ (w = v ∨ S.getD w false = true) := by
  by_cases e : v = w
  · subst e; rw [getD_set_self hv]; simp
  · rw [getD_set_ne e]; simp [Ne.symm e]
namespace AV
variable {M : (Nat → Bool) → Prop} {D : Dat} {S : List Bool} {rest : List Int} {O : List Nat} {pl : Nat}
theorem start (C : Core M D) : AV M D (List.replicate (D.n + 1) false) [] [] D.trail.length where
  len := by simp
  pll := Nat.le_refl _
  ond := by simp
  om := fun i => by
    constructor
    · intro h; cases h
    · rintro ⟨_, _, l, _, h⟩
      simp [List.getD, List.getElem?_replicate] at h
      split at h <;> simp at h
  rst := fun l h => by cases h
  restc := fun i l _ _ h => by
    simp [List.getD, List.getElem?_replicate] at h
    split at h <;> simp at h
  rnd := by simp
  mkd := fun i l _ _ h => by
    simp [List.getD, List.getElem?_replicate] at h
    split at h <;> simp at h
theorem markTop (V : AV M D S rest O pl) (C : Core M D) {l : Int} {t : Nat} (hl : Lit D.n l) (ht : D.trail[t]? = some (-l)) (htp : t < pl) (hlev : D.lev t = D.lims.length) (h0 : 0 < D.lims.length) (hs : S.getD l.natAbs false = false) : AV M D (S.set l.natAbs true) rest (t :: O) pl := by
  have hv : l.natAbs < S.length := by rw [V.len]; have := hl.2; (first | lia | omega)
  have same : ∀ {i l'}, D.trail[i]? = some l' → l'.natAbs = l.natAbs → i = t ∧ l' = -l := fun h e => by
    have := C.idx h ht (by rw [e]; simp)
    subst this
    rw [ht] at h; exact ⟨rfl, (Option.some.inj h).symm⟩
  have hno : t ∉ O := fun h => by
    obtain ⟨_, _, l', h1, h2⟩ := (V.om t).mp h
    rw [ht] at h1; cases h1
    rw [Int.natAbs_neg, hs] at h2; cases h2
  refine ⟨by simp [V.len], V.pll, List.nodup_cons.mpr ⟨hno, V.ond⟩, fun i => ?_, fun l' h => ?_, fun i l' hi hlt hm => ?_, V.rnd, fun i l' hi' hi hm => ?_⟩
  · rw [List.mem_cons, V.om i]
    constructor
    · rintro (rfl | ⟨h1, h2, l', h3, h4⟩)
      · exact ⟨htp, hlev, -l, ht, by rw [Int.natAbs_neg]; exact (getD_set_true hv).mpr (.inl rfl)⟩
      · exact ⟨h1, h2, l', h3, (getD_set_true hv).mpr (.inr h4)⟩
    · rintro ⟨h1, h2, l', h3, h4⟩
      rcases (getD_set_true hv).mp h4 with h | h
      · exact .inl (same h3 h).1
      · exact .inr ⟨h1, h2, l', h3, h⟩
  · obtain ⟨h1, h2, h3⟩ := V.rst l' h
    exact ⟨h1, (getD_set_true hv).mpr (.inr h2), h3⟩
  · rcases (getD_set_true hv).mp hm with h | h
    · obtain ⟨rfl, _⟩ := same hi h
      (first | lia | omega)
    · exact V.restc i l' hi hlt h
  · rcases (getD_set_true hv).mp hm with h | h
    · obtain ⟨rfl, _⟩ := same hi h
      (first | lia | omega)
    · exact V.mkd i l' hi' hi h
theorem markRest (V : AV M D S rest O pl) (C : Core M D) {l : Int} {t : Nat} (hl : Lit D.n l) (ht : D.trail[t]? = some (-l)) (h0 : 0 < D.lev t) (hlev : D.lev t < D.lims.length) (hs : S.getD l.natAbs false = false) : AV M D (S.set l.natAbs true) (rest ++ [l]) O pl := by
  have hv : l.natAbs < S.length := by rw [V.len]; have := hl.2; (first | lia | omega)
  have same : ∀ {i l'}, D.trail[i]? = some l' → l'.natAbs = l.natAbs → i = t ∧ l' = -l := fun h e => by
    have := C.idx h ht (by rw [e]; simp)
    subst this
    rw [ht] at h; exact ⟨rfl, (Option.some.inj h).symm⟩
  refine ⟨by simp [V.len], V.pll, V.ond, fun i => ?_, fun l' h => ?_, fun i l' hi hlt hm => ?_, ?_, fun i l' hi' hi hm => ?_⟩
  · rw [V.om i]
    constructor
    · rintro ⟨h1, h2, l', h3, h4⟩
      exact ⟨h1, h2, l', h3, (getD_set_true hv).mpr (.inr h4)⟩
    · rintro ⟨h1, h2, l', h3, h4⟩
      rcases (getD_set_true hv).mp h4 with h | h
      · obtain ⟨rfl, _⟩ := same h3 h
        (first | lia | omega)
      · exact ⟨h1, h2, l', h3, h⟩
  · rcases List.mem_append.mp h with h | h
    · obtain ⟨h1, h2, h3⟩ := V.rst l' h
      exact ⟨h1, (getD_set_true hv).mpr (.inr h2), h3⟩
    · rw [List.mem_singleton.mp h]
      exact ⟨hl, (getD_set_true hv).mpr (.inl rfl), t, ht, h0, hlev⟩
  · rcases (getD_set_true hv).mp hm with h | h
    · obtain ⟨_, rfl⟩ := same hi h
      simp
    · have := V.restc i l' hi hlt h; simp [this]
  · rw [List.map_append]
    refine nodup_snoc V.rnd (fun h => ?_)
    obtain ⟨l', hl', e⟩ := List.mem_map.mp h
    have := (V.rst l' hl').2.1
    rw [e, hs] at this; cases this
  · rcases (getD_set_true hv).mp hm with h | h
    · obtain ⟨rfl, _⟩ := same hi h
      exact h0
    · exact V.mkd i l' hi' hi h
/-- the next place: the last of the marked ones -/
theorem next (V : AV M D S rest O pl) {p : Nat} {l : Int} (hp : p < pl) (hl : D.trail[p]? = some l) (hm : S.getD l.natAbs false = true) (hno : ∀ i l', p < i → i < pl → D.trail[i]? = some l' → S.getD l'.natAbs false = false) (hO : O ≠ []) : p ∈ O ∧ D.lev p = D.lims.length ∧ AV M D S rest (O.erase p) p := by
  obtain ⟨i, hi⟩ := List.exists_mem_of_ne_nil O hO
  obtain ⟨h1, h2, l', h3, h4⟩ := (V.om i).mp hi
  have hip : i ≤ p := by
    by_cases h : i ≤ p
    · exact h
    · rw [hno i l' (by (first | lia | omega)) h1 h3] at h4; cases h4
  have hlev : D.lev p = D.lims.length := by
    have a := levI_mono (lims := D.lims) hip
    have b := levI_le D.lims p
    unfold Dat.lev at h2 ⊢; (first | lia | omega)
  refine ⟨(V.om p).mpr ⟨hp, hlev, l, hl, hm⟩, hlev, V.len, by have := V.pll; (first | lia | omega), V.ond.erase p, fun j => ?_, V.rst, V.restc, V.rnd, V.mkd⟩
  rw [V.ond.mem_erase_iff, V.om j]
  constructor
  · rintro ⟨hne, h1, h2, l', h3, h4⟩
    refine ⟨?_, h2, l', h3, h4⟩
    by_cases h : j < p
    · exact h
    · rw [hno j l' (by (first | lia | omega)) h1 h3] at h4; cases h4
  · rintro ⟨h1, h⟩
    exact ⟨by (first | lia | omega), by (first | lia | omega), h⟩
/-- the reason of the last marked place, while others of its level are open -/
theorem reason (V : AV M D S rest O pl) (C : Core M D) {p : Nat} {l : Int} (hl : D.trail[p]? = some l) (hlev : D.lev p = D.lims.length) (V' : AV M D S rest (O.erase p) p) (hO : O.erase p ≠ []) :
    ∃ (k : Nat) (c : List Int), D.reas.getD l.natAbs 0 = (k : Int) ∧ D.cls[k]? = some c ∧ ∀ l' ∈ c, l' ≠ l → -l' ∈ D.trail.take p := by
  obtain ⟨i, hi⟩ := List.exists_mem_of_ne_nil _ hO
  obtain ⟨h1, h2, l', h3, h4⟩ := (V'.om i).mp hi
  rcases C.reas p l hl with ⟨_, h | ⟨h, _⟩⟩ | ⟨k, c, e, hk, _, ho⟩
  · have := levI_lim h h1
    unfold Dat.lev at h2 hlev; (first | lia | omega)
  · have := V'.mkd i l' (get?_lt h3) h3 h4
    have := levI_mono (lims := D.lims) (Nat.le_of_lt h1)
    unfold Dat.lev at *; (first | lia | omega)
  · exact ⟨k, c, e, hk, ho⟩
end AV
/-- the scan of a clause: what was marked -/
def Scan (D : Dat) (S : List Bool) (sk : Int) (c : List Int) : Prop := ∀ l ∈ c, l ≠ sk → ∀ t, D.trail[t]? = some (-l) → 0 < D.lev t → S.getD l.natAbs false = true
theorem Res.mono {M : (Nat → Bool) → Prop} {D : Dat} {rest rest' : List Int} {O O' : List Nat} {P : (Nat → Bool) → Prop} (r : Res M D rest O P) (h1 : ∀ l ∈ rest, l ∈ rest') (h2 : ∀ i ∈ O, i ∈ O') : Res M D rest' O' P := fun σ hσ => by
  rcases r σ hσ with ⟨l, hl, ht⟩ | ⟨i, hi, h⟩ | h
  · exact .inl ⟨l, h1 l hl, ht⟩
  · exact .inr (.inl ⟨i, h2 i hi, h⟩)
  · exact .inr (.inr h)
/-- after the scan the clause is resolved -/
theorem AV.resolved {M : (Nat → Bool) → Prop} {D : Dat} {S : List Bool} {rest : List Int} {O : List Nat} {pl : Nat} (V : AV M D S rest O pl) (C : Core M D) {sk : Int} {c : List Int} (hc : c ∈ D.cls) (hneg : ∀ l ∈ c, l ≠ sk → -l ∈ D.trail.take pl) (sc : Scan D S sk c)
    (hr : sk ∈ c → Res M D rest O (fun σ => tl σ (-sk))) : Res M D rest O (fun _ => False) := by
  intro σ hσ
  obtain ⟨l, hl, ht⟩ := C.imp σ hσ c hc
  have hll := C.clit c hc l hl
  by_cases e : l = sk
  · subst e
    rcases hr hl σ hσ with h | h | h
    · exact .inl h
    · exact .inr (.inl h)
    · exact absurd ht ((tl_neg hll.1).mp h)
  · obtain ⟨i, hi⟩ := List.getElem?_of_mem (hneg l hl e)
    have hip : i < pl := by have := get?_lt hi; rw [List.length_take] at this; (first | lia | omega)
    rw [List.getElem?_take_of_lt hip] at hi
    by_cases h0 : D.lev i = 0
    · have := C.follow (m := 0) hσ (fun j l' hj hjl hjz => by
        have := levI_lim (lims := D.lims) (i := 0) (p := j) hjl
        exfalso
        have h1 : 0 < D.lims.length := List.length_pos_of_mem hjl
        unfold Dat.lev levI at hjz
        have : j ∈ D.lims.filter fun p => decide (p ≤ j) := by simp [hjl]
        have := List.length_pos_of_mem this
        (first | lia | omega)) i (-l) hi (by (first | lia | omega))
      exact absurd ht ((tl_neg hll.1).mp this)
    · have hm := sc l hl e i hi (by (first | lia | omega))
      by_cases ht' : D.lev i = D.lims.length
      · refine .inr (.inl ⟨i, (V.om i).mpr ⟨hip, ht', -l, hi, by rw [Int.natAbs_neg]; exact hm⟩, -l, hi, by rw [Int.neg_neg]; exact ht⟩)
      · have : D.lev i < D.lims.length := by have := levI_le D.lims i; unfold Dat.lev at *; (first | lia | omega)
        have := V.restc i (-l) hi this (by rw [Int.natAbs_neg]; exact hm)
        rw [Int.neg_neg] at this
        exact .inl ⟨l, this, ht⟩
/-- the learned clause -/
structure LC (M : (Nat → Bool) → Prop) (D : Dat) (f : Int) (rest : List Int) (back : Nat) : Prop where
  sat : ∀ σ, M σ → Sat σ (f :: rest)
  lit : ∀ l ∈ f :: rest, Lit D.n l
  nd : ((f :: rest).map Int.natAbs).Nodup
  top : ∃ i, D.trail[i]? = some (-f) ∧ D.lev i = D.lims.length
  low : ∀ l ∈ rest, ∃ i, D.trail[i]? = some (-l) ∧ D.lev i ≤ back
  sec : rest ≠ [] → ∃ i, D.trail[i]? = some (-(rest.getD 0 0)) ∧ D.lev i = back
  lt : back < D.lims.length
  zero : rest = [] → back = 0
theorem AV.learn {M : (Nat → Bool) → Prop} {D : Dat} {S : List Bool} {rest rest' : List Int} {O : List Nat} {pl p : Nat} {l : Int} (V : AV M D S rest O pl) (C : Core M D) (h0 : 0 < D.lims.length) (hl : D.trail[p]? = some l) (hlev : D.lev p = D.lims.length) (hO : ∀ i ∈ O, i = p) (r : Res M D rest O (fun _ => False))
    (hp : rest'.Perm rest) (hmax : ∀ x ∈ rest, D.levs.getD x.natAbs 0 ≤ D.levs.getD (rest'.getD 0 0).natAbs 0) {back : Nat} (hb : (back : Int) = if rest = [] then 0 else D.levs.getD (rest'.getD 0 0).natAbs 0) : LC M D (-l) rest' back := by
  have hll := C.lit l (List.mem_of_getElem? hl)
  have lv : ∀ x ∈ rest, ∃ i, D.trail[i]? = some (-x) ∧ D.levs.getD x.natAbs 0 = D.lev i ∧ D.lev i < D.lims.length := fun x hx => by
    obtain ⟨_, _, i, hi, _, h⟩ := V.rst x hx
    have := C.levs i _ hi
    rw [Int.natAbs_neg] at this
    exact ⟨i, hi, this, h⟩
  have hd : rest' ≠ [] → rest'.getD 0 0 ∈ rest := fun h => hp.mem_iff.mp (getD_mem (by have := List.length_pos_iff.mpr h; (first | lia | omega)))
  have ne : rest = [] ↔ rest' = [] := ⟨fun e => by subst e; exact hp.eq_nil, fun e => by subst e; exact hp.symm.eq_nil⟩
  refine ⟨fun σ hσ => ?_, fun x hx => ?_, ?_, ⟨p, by rw [Int.neg_neg]; exact hl, hlev⟩, fun x hx => ?_, fun h => ?_, ?_, fun h => ?_⟩
  · rcases r σ hσ with ⟨x, hx, ht⟩ | ⟨i, hi, x, h1, h2⟩ | h
    · exact ⟨x, by simp [hp.mem_iff.mpr hx], ht⟩
    · have := hO i hi
      subst this
      rw [hl] at h1; cases h1
      exact ⟨-l, by simp, h2⟩
    · exact h.elim
  · rcases List.mem_cons.mp hx with e | e
    · rw [e]; exact hll.neg
    · exact (V.rst x (hp.mem_iff.mp e)).1
  · rw [List.map_cons, List.nodup_cons]
    refine ⟨fun h => ?_, (hp.map _).nodup_iff.mpr V.rnd⟩
    obtain ⟨x, hx, e⟩ := List.mem_map.mp h
    obtain ⟨i, hi, _, hlt⟩ := lv x (hp.mem_iff.mp hx)
    have := C.idx hi hl (by simpa using e)
    subst this
    (first | lia | omega)
  · have hx' := hp.mem_iff.mp hx
    have hr : rest ≠ [] := fun e => by rw [e] at hx'; cases hx'
    rw [if_neg hr] at hb
    obtain ⟨i, hi, e, _⟩ := lv x hx'
    have := hmax x hx'
    exact ⟨i, hi, by (first | lia | omega)⟩
  · have hr : rest ≠ [] := fun e => h (ne.mp e)
    rw [if_neg hr] at hb
    obtain ⟨i, hi, e, _⟩ := lv _ (hd h)
    exact ⟨i, hi, by (first | lia | omega)⟩
  · by_cases hr : rest = []
    · rw [if_pos hr] at hb; (first | lia | omega)
    · rw [if_neg hr] at hb
      obtain ⟨i, hi, e, h⟩ := lv _ (hd fun e => hr (ne.mpr e))
      (first | lia | omega)
  · rw [if_pos (ne.mpr h)] at hb; (first | lia | omega)
end
-- Pure4
section
/-- the measure of the conflicts -/
def Bm (lims : List Nat) : Nat → Nat
  | 0 => 0
  | N + 1 => Bm lims N + if N ∈ lims then 0 else 2 ^ (4 - N)
theorem Bm_up {lims : List Nat} {q N : Nat} (h : q ≤ N) (hN : N ≤ 5) : Bm lims N + 2 ^ (5 - N) ≤ Bm lims q + 2 ^ (5 - q) := by
  induction N with
  | zero => have : q = 0 := by (first | lia | omega)
            subst this; exact Nat.le_refl _
  | succ N ih =>
    by_cases e : q = N + 1
    · subst e; exact Nat.le_refl _
    · have ih := ih (by (first | lia | omega)) (by (first | lia | omega))
      have e2 : 2 ^ (5 - N) = 2 ^ (4 - N) + 2 ^ (4 - N) := by
        rw [show 5 - N = (4 - N) + 1 by (first | lia | omega), Nat.pow_succ]; (first | lia | omega)
      have e3 : 5 - (N + 1) = 4 - N := by (first | lia | omega)
      have f0 : 0 < 2 ^ (4 - N) := Nat.pow_pos (by (first | lia | omega))
      rw [Bm, e3]
      split <;> (first | lia | omega)
theorem Bm_le {lims : List Nat} {N : Nat} (hN : N ≤ 5) : Bm lims N ≤ 31 := by
  have := Bm_up (lims := lims) (Nat.zero_le N) hN
  have h2 : 0 < 2 ^ (5 - N) := Nat.pow_pos (by (first | lia | omega))
  simp only [Bm] at this
  (first | lia | omega)
theorem Bm_mono {lims : List Nat} {q N : Nat} (h : q ≤ N) : Bm lims q ≤ Bm lims N := by
  induction N with
  | zero => have : q = 0 := by (first | lia | omega)
            subst this; exact Nat.le_refl _
  | succ N ih =>
    by_cases e : q = N + 1
    · subst e; exact Nat.le_refl _
    · have := ih (by (first | lia | omega))
      rw [Bm]; (first | lia | omega)
theorem Bm_congr {lims lims' : List Nat} {N : Nat} (h : ∀ q, q < N → (q ∈ lims ↔ q ∈ lims')) : Bm lims N = Bm lims' N := by
  induction N with
  | zero => rfl
  | succ N ih =>
    rw [Bm, Bm, ih (fun q hq => h q (by (first | lia | omega)))]
    simp only [h N (by (first | lia | omega))]
theorem Bm_lt {lims lims' : List Nat} {p N : Nat} (hp : p ∈ lims) (hpN : p < N) (hN : N ≤ 5) (hp' : p ∉ lims') (h : ∀ q, q < p → (q ∈ lims ↔ q ∈ lims')) : Bm lims N + 1 ≤ Bm lims' (p + 1) := by
  have a := Bm_up (lims := lims) (q := p + 1) (N := N) (by (first | lia | omega)) hN
  have b : Bm lims (p + 1) = Bm lims p := by rw [Bm, if_pos hp]; rfl
  have c : Bm lims' (p + 1) = Bm lims' p + 2 ^ (4 - p) := by rw [Bm, if_neg hp']
  have d := Bm_congr h
  have e : 5 - (p + 1) = 4 - p := by (first | lia | omega)
  have f : 0 < 2 ^ (5 - N) := Nat.pow_pos (by (first | lia | omega))
  rw [e] at a
  (first | lia | omega)
/-- the decisions are the assumptions, so far as the levels reach -/
structure Asm (A : List Int) (D : Dat) : Prop where
  dec : ∀ i l, D.trail[i]? = some l → i ∈ D.lims → D.lev i ≤ A.length → l ∈ A
  tru : ∀ k l, A[k]? = some l → k < D.lims.length → ∃ j, D.trail[j]? = some l ∧ D.lev j ≤ k + 1
  len : D.lims.length ≤ A.length + D.trail.length
  lenk : ∀ k p, D.lims[k]? = some p → k ≤ A.length + p
theorem Asm.start {A : List Int} {D : Dat} (h : D.lims = []) : Asm A D where
  dec := fun i l _ hi => by rw [h] at hi; cases hi
  tru := fun k l _ hk => by rw [h] at hk; simp at hk
  len := by rw [h]; simp
  lenk := fun k p hk => by rw [h] at hk; simp at hk
theorem Asm.grow {A : List Int} {D D' : Dat} (a : Asm A D) (g : Grow D D') (lt : ∀ p ∈ D.lims, p < D.trail.length) : Asm A D' := by
  obtain ⟨e, he⟩ := g.pre
  have lv : ∀ i, D'.lev i = D.lev i := fun i => by unfold Dat.lev; rw [g.lims]
  have old : ∀ {i l}, D.trail[i]? = some l → D'.trail[i]? = some l := fun h => by rw [he, List.getElem?_append_left (get?_lt h)]; exact h
  refine ⟨fun i l hi hm hl => ?_, fun k l hk hkl => ?_, ?_, fun k p hk => ?_⟩
  · rw [g.lims] at hm
    have := lt i hm
    rw [he, List.getElem?_append_left this] at hi
    exact a.dec i l hi hm (by rw [← lv]; exact hl)
  · rw [g.lims] at hkl
    obtain ⟨j, hj, hjl⟩ := a.tru k l hk hkl
    exact ⟨j, old hj, by rw [lv]; exact hjl⟩
  · rw [g.lims, he, List.length_append]; have := a.len; (first | lia | omega)
  · rw [g.lims] at hk; exact a.lenk k p hk
theorem levI_add (lims : List Nat) (k N i : Nat) (h : i < N) : levI (lims ++ List.replicate k N) i = levI lims i := by
  have : (List.replicate k N).filter (fun p => decide (p ≤ i)) = [] := by
    rw [List.filter_eq_nil_iff]; intro a ha
    rw [List.eq_of_mem_replicate ha]; simp; (first | lia | omega)
  unfold levI
  rw [List.filter_append, this, List.append_nil]
/-- levels without a literal -/
theorem Good.lims {M : (Nat → Bool) → Prop} {D : Dat} (G : Good M D) (h : D.head = D.trail.length) : ∀ k, Good M { D with lims := D.lims ++ List.replicate k D.trail.length }
  | 0 => by simpa using G
  | k + 1 => by
    have := (Good.lims G h k).lim h
    rw [List.replicate_succ', ← List.append_assoc]
    exact this
theorem Asm.lims {A : List Int} {D : Dat} (a : Asm A D) (lt : ∀ p ∈ D.lims, p < D.trail.length) {k : Nat} (hk : k = 0 ∨ D.lims.length + k ≤ A.length) (hv : ∀ i l, D.lims.length ≤ i → i < D.lims.length + k → A[i]? = some l → l ∈ D.trail) : Asm A { D with lims := D.lims ++ List.replicate k D.trail.length } := by
  have lv : ∀ {i l}, D.trail[i]? = some l → levI (D.lims ++ List.replicate k D.trail.length) i = levI D.lims i := fun h => levI_add _ _ _ _ (get?_lt h)
  refine ⟨fun i l hi hm hl => ?_, fun j l hj hjl => ?_, ?_, fun j p hj => ?_⟩
  · have hi' := get?_lt hi
    rcases List.mem_append.mp hm with hm | hm
    · refine a.dec i l hi hm ?_
      unfold Dat.lev at hl ⊢
      rw [lv hi] at hl; exact hl
    · have := List.eq_of_mem_replicate hm
      (try dsimp only at hi'); (first | lia | omega)
  · simp only [List.length_append, List.length_replicate] at hjl
    by_cases h : j < D.lims.length
    · obtain ⟨t, ht, htl⟩ := a.tru j l hj h
      refine ⟨t, ht, ?_⟩
      unfold Dat.lev at htl ⊢
      (try dsimp only)
      rw [lv ht]; exact htl
    · obtain ⟨t, ht⟩ := List.getElem?_of_mem (hv j l (by (first | lia | omega)) hjl hj)
      refine ⟨t, ht, ?_⟩
      unfold Dat.lev
      (try dsimp only)
      rw [lv ht]
      have := levI_le D.lims t; (first | lia | omega)
  · simp only [List.length_append, List.length_replicate]
    have := a.len
    rcases hk with h | h <;> (first | lia | omega)
  · (try dsimp only at hj)
    have hjl := get?_lt hj
    simp only [List.length_append, List.length_replicate] at hjl
    by_cases h : j < D.lims.length
    · rw [List.getElem?_append_left h] at hj; exact a.lenk j p hj
    · rcases hk with h' | h' <;> (first | lia | omega)
/-- a decision, of an assumption or above them -/
theorem Asm.decide {A : List Int} {D : Dat} (a : Asm A D) (hp : ∀ p ∈ D.lims, p ≤ D.trail.length) {l r : Int} (h : A[D.lims.length]? = some l ∨ A.length ≤ D.lims.length) : Asm A (({ D with lims := D.lims ++ [D.trail.length] } : Dat).assign l r) := by
  have lv : ∀ {i x}, D.trail[i]? = some x → levI (D.lims ++ [D.trail.length]) i = levI D.lims i := fun h => levI_snoc_lt (get?_lt h)
  have lt : levI (D.lims ++ [D.trail.length]) D.trail.length = D.lims.length + 1 := by
    rw [levI_full]
    · simp
    · intro q hq
      rcases List.mem_append.mp hq with hq | hq
      · exact hp q hq
      · rw [List.mem_singleton.mp hq]; exact Nat.le_refl _
  refine ⟨fun i x hi hm hl => ?_, fun j x hj hjl => ?_, ?_, fun j p hj => ?_⟩
  · rcases get?_snoc hi with hi | ⟨rfl, rfl⟩
    · have : i < D.trail.length := get?_lt hi
      rcases List.mem_append.mp hm with hm | hm
      · refine a.dec i x hi hm ?_
        unfold Dat.lev at hl ⊢
        have e := lv hi
        simp only [Dat.assign] at hl
        rw [e] at hl; exact hl
      · have := List.mem_singleton.mp hm; (first | lia | omega)
    · rcases h with h | h
      · exact List.mem_of_getElem? h
      · unfold Dat.lev at hl
        simp only [Dat.assign] at hl
        rw [lt] at hl; (first | lia | omega)
  · simp only [Dat.assign, List.length_append, List.length_singleton] at hjl
    by_cases e : j < D.lims.length
    · obtain ⟨t, ht, htl⟩ := a.tru j x hj e
      refine ⟨t, snoc_get? ht, ?_⟩
      unfold Dat.lev at htl ⊢
      simp only [Dat.assign]
      rw [lv ht]; exact htl
    · have ej : j = D.lims.length := by (first | lia | omega)
      rcases h with h | h
      · subst ej
        rw [h] at hj; cases hj
        refine ⟨D.trail.length, snoc_last, ?_⟩
        unfold Dat.lev
        simp only [Dat.assign]
        rw [lt]; exact Nat.le_refl _
      · have := get?_lt hj; (first | lia | omega)
  · simp only [Dat.assign, List.length_append, List.length_singleton]
    have := a.len; (first | lia | omega)
  · simp only [Dat.assign] at hj
    rcases get?_snoc hj with hj | ⟨rfl, rfl⟩
    · exact a.lenk j p hj
    · exact a.len
/-- after a learned clause: what the cancelled and learned solver is -/
structure Learned (M : (Nat → Bool) → Prop) (D D₂ : Dat) (c : List Int) : Prop where
  good : Good M D₂
  lt : ∀ p ∈ D₂.lims, p < D₂.trail.length
  learned : D₂.learned = D.learned ++ [c]
  cls : D₂.cls.length ≤ D.cls.length + 1
  n : D₂.n = D.n
  found : D₂.found = D.found
  acts : D₂.acts = D.acts
  refuted : D₂.refuted = D.refuted
  up : Bm D.lims D.trail.length + 1 ≤ Bm D₂.lims D₂.trail.length
  asm : ∀ A, Asm A D → Asm A D₂
theorem learned_of {M : (Nat → Bool) → Prop} {D : Dat} {h₀ k back : Nat} {f : Int} {rest : List Int} (F : Conf M D h₀ k) (lt : ∀ p ∈ D.lims, p < D.trail.length) (hh : h₀ < D.trail.length) (l : LC M D f rest back) : Learned M D ((D.cancel back).learn (f :: rest)) (f :: rest) := by
  have C := F.core
  obtain ⟨p, hp⟩ : ∃ p, D.lims[back]? = some p := ⟨_, List.getElem?_eq_getElem l.lt⟩
  have hpm := List.mem_of_getElem? hp
  have hpl := lt p hpm
  have cs := cancel_same hp (Nat.le_of_lt hpl)
  have G := Good.cancel C F.wl F.wat F.ws hp (F.lh p hpm) (Nat.le_of_lt hpl)
  have hnot : p ∉ D.lims.take back := by
    intro h
    obtain ⟨j, hj⟩ := List.getElem?_of_mem h
    have hjb : j < back := by have := get?_lt hj; rw [List.length_take] at this; (first | lia | omega)
    rw [List.getElem?_take_of_lt hjb] at hj
    by_cases e : rest = []
    · have := l.zero e; (first | lia | omega)
    · obtain ⟨i, hi, hlv⟩ := l.sec e
      have a := (levI_iff C.sorted hj (i := i)).mp (by unfold Dat.lev at hlv; (first | lia | omega))
      have b := lims_ge C.sorted hp (i := i) (by unfold Dat.lev at hlv; (first | lia | omega))
      (first | lia | omega)
  have hagree : ∀ q, q < p → (q ∈ D.lims ↔ q ∈ D.lims.take back) := fun q hq => ⟨fun h => by
    obtain ⟨j, hj⟩ := List.getElem?_of_mem h
    have hjb : j < back := by
      by_cases e : j < back
      · exact e
      · exfalso
        have := (levI_iff C.sorted hj (i := q)).mpr (Nat.le_refl _)
        have h2 := (levI_iff C.sorted hp (i := q))
        (first | lia | omega)
    exact List.mem_of_getElem? (i := j) (by rw [List.getElem?_take_of_lt hjb]; exact hj), fun h => List.mem_of_mem_take h⟩
  have hltp : ∀ q ∈ D.lims.take back, q < p := fun q hq => by
    have := take_le C.sorted hp q hq
    rcases Nat.lt_or_eq_of_le this with h | h
    · exact h
    · exact absurd (h ▸ hq) hnot
  have hlevp : levI (D.lims.take back) p = back := by
    rw [levI_full (fun q hq => Nat.le_of_lt (hltp q hq)), List.length_take]
    have := l.lt; (first | lia | omega)
  generalize hD₁ : D.cancel back = D₁ at *
  have tl₁ : D₁.trail.length = p := by rw [cs.trail, List.length_take]; (first | lia | omega)
  have hn := cs.n
  have fresh : f ∉ D₁.trail ∧ -f ∉ D₁.trail := by
    obtain ⟨i, hi, hlv⟩ := l.top
    have hip : p ≤ i := (levI_iff C.sorted hp).mp (by have := l.lt; unfold Dat.lev at hlv; (first | lia | omega))
    have no : ∀ y : Int, y.natAbs = f.natAbs → y ∉ D₁.trail := fun y hy h => by
      obtain ⟨j, hj⟩ := List.getElem?_of_mem h
      have hjl := get?_lt hj
      rw [cs.trail, List.getElem?_take_of_lt (by (first | lia | omega))] at hj
      have := C.idx hj hi (by rw [hy]; simp)
      (first | lia | omega)
    exact ⟨no f rfl, no (-f) (by simp)⟩
  have lowt : ∀ y ∈ rest, -y ∈ D₁.trail := fun y hy => by
    obtain ⟨i, hi, hlv⟩ := l.low y hy
    have := lims_ge C.sorted hp (i := i) (by unfold Dat.lev at hlv; (first | lia | omega))
    exact List.mem_of_getElem? (i := i) (by rw [cs.trail, List.getElem?_take_of_lt this]; exact hi)
  have litf : Lit D₁.n f := by rw [hn]; exact l.lit f (by simp)
  have hlp : ∀ q ∈ D₁.lims, q ≤ D₁.trail.length := fun q hq => by rw [cs.lims] at hq; have := hltp q hq; (first | lia | omega)
  have asm : ∀ (A : List Int) (D₂ : Dat), D₂.trail = D₁.trail ++ [f] → D₂.lims = D₁.lims → Asm A D → Asm A D₂ := fun A D₂ ht hl a => by
    have lv : ∀ {i}, i < p → D₂.lev i = D.lev i := fun {i} hi => by unfold Dat.lev; rw [hl, cs.lims, levI_take C.sorted hp hi]
    have ge : ∀ {i y}, i < p → D.trail[i]? = some y → D₂.trail[i]? = some y := fun {i y} hi h => by
      rw [ht, List.getElem?_append_left (by (first | lia | omega)), cs.trail, List.getElem?_take_of_lt hi]; exact h
    refine ⟨fun i y hi hm hle => ?_, fun j y hj hjl => ?_, ?_, fun j q hj => ?_⟩
    · rw [hl, cs.lims] at hm
      have hip := hltp i hm
      rw [ht, List.getElem?_append_left (by (first | lia | omega)), cs.trail, List.getElem?_take_of_lt hip] at hi
      exact a.dec i y hi ((hagree i hip).mpr hm) (by rw [← lv hip]; exact hle)
    · rw [hl, cs.lims, List.length_take] at hjl
      obtain ⟨t, ht', htl⟩ := a.tru j y hj (by (first | lia | omega))
      have htp := lims_ge C.sorted hp (i := t) (by unfold Dat.lev at htl; (first | lia | omega))
      exact ⟨t, ge htp ht', by rw [lv htp]; exact htl⟩
    · rw [hl, cs.lims, List.length_take, ht, List.length_append, tl₁, List.length_singleton]
      have := a.lenk back p hp; (first | lia | omega)
    · rw [hl, cs.lims] at hj
      have hjb : j < back := by have := get?_lt hj; rw [List.length_take] at this; (first | lia | omega)
      rw [List.getElem?_take_of_lt hjb] at hj
      exact a.lenk j q hj
  have up : Bm D.lims D.trail.length + 1 ≤ Bm D₁.lims (D₁.trail.length + 1) := by
    rw [cs.lims, tl₁]
    exact Bm_lt hpm hpl (by have := C.tlen; have := C.n5; (first | lia | omega)) hnot hagree
  have hltl : ∀ q ∈ D₁.lims, q < D₁.trail.length + 1 := fun q hq => by rw [cs.lims] at hq; have := hltp q hq; (first | lia | omega)
  cases rest with
  | nil =>
    have hb := l.zero rfl
    have e : D₁.learn [f] = ({ D₁ with learned := D₁.learned ++ [[f]] } : Dat).assign f (-1) := by rw [Dat.learn, if_pos (by rfl)]; rfl
    rw [e]
    have G' : Good M { D₁ with learned := D₁.learned ++ [[f]] } := ⟨{ G.core with }, G.wl, ⟨G.wat.nd, G.wat.lt, G.wat.ex⟩, G.ws, G.lh, G.ht⟩
    have hl0 : D₁.lims = [] := by rw [cs.lims, hb]; rfl
    refine ⟨G'.assign litf fresh.1 fresh.2 (.inl ⟨rfl, .inr ⟨by (try dsimp only); rw [hl0]; rfl, fun σ hσ => ?_⟩⟩), ?_, ?_, ?_, hn, cs.found, cs.acts, cs.refuted, ?_, fun A a => asm A _ rfl rfl a⟩
    · obtain ⟨y, hy, ht⟩ := l.sat σ hσ
      rw [List.mem_singleton.mp hy] at ht; exact ht
    · intro q hq; simp only [Dat.assign, List.length_append, List.length_singleton] at hq ⊢; exact hltl q hq
    · show D₁.learned ++ [[f]] = _; rw [cs.learned]
    · show D₁.cls.length ≤ _; rw [cs.cls]; (first | lia | omega)
    · simp only [Dat.assign, List.length_append, List.length_singleton]; exact up
  | cons g rest =>
    have e : D₁.learn (f :: g :: rest) = (({ D₁ with learned := D₁.learned ++ [f :: g :: rest] } : Dat).attach (f :: g :: rest)).assign f D₁.cls.length := by rw [Dat.learn, if_neg (by simp)]; rfl
    rw [e]
    have C' : Core M { D₁ with cls := D₁.cls ++ [f :: g :: rest] } := G.core.add (fun _ h => h) (by simp) (fun y hy => by rw [hn]; exact l.lit y hy) l.nd l.sat (fun _ h _ _ => h)
    have litg : Lit D₁.n g := by rw [hn]; exact l.lit g (by simp)
    have hfg : f ≠ g := fun e => by
      have := l.nd
      simp only [List.map_cons, List.nodup_cons, List.mem_cons, not_or] at this
      exact this.1.1 (by rw [e])
    have C'' := C'.assign (l := f) (r := D₁.cls.length) litf fresh.1 fresh.2 hlp (.inr ⟨D₁.cls.length, f :: g :: rest, rfl, snoc_last, by simp, fun y hy hne => by
      (try dsimp only); rw [List.take_length]
      rcases List.mem_cons.mp hy with h | h
      · exact absurd h hne
      · exact lowt y h⟩)
    have W' := Wat.attach (c := f :: g :: rest) G.wat G.wl litf litg hfg
    obtain ⟨ig, hig, hlg⟩ := l.sec (by simp)
    have higp := lims_ge C.sorted hp (i := ig) (by unfold Dat.lev at hlg; (first | lia | omega))
    have hig1 : D₁.trail[ig]? = some (-g) := by rw [cs.trail, List.getElem?_take_of_lt higp]; exact hig
    refine ⟨⟨{ C'' with }, by simp [Dat.assign, Dat.attach, Dat.push, G.wl], ⟨W'.nd, W'.lt, W'.ex⟩, ?_, fun q hq => G.lh q hq, ?_⟩, ?_, ?_, ?_, hn, cs.found, cs.acts, cs.refuted, ?_, fun A a => asm A _ rfl rfl a⟩
    · intro k' c hk a b hab i hi ht
      have hi' : i < D₁.head := hi
      have hil : i < D₁.trail.length := by have := G.ht; (first | lia | omega)
      have ht' : D₁.trail[i]? = some (-a) := by
        rcases get?_snoc ht with h | ⟨h, _⟩
        · exact h
        · exact absurd h (by show ¬ i = D₁.trail.length; (first | lia | omega))
      rcases get?_snoc (l := D₁.cls) hk with hk | ⟨rfl, rfl⟩
      · obtain ⟨j, h1, h2⟩ := G.ws k' c hk a b hab i hi' ht'
        exact ⟨j, snoc_get? h1, h2⟩
      · rcases hab with ⟨h1, h2⟩ | ⟨h1, h2⟩
        · simp at h1 h2; subst h1; subst h2
          exact absurd (List.mem_of_getElem? ht') fresh.2
        · simp at h1 h2; subst h1; subst h2
          have := G.core.idx ht' hig1 rfl
          subst this
          refine ⟨D₁.trail.length, snoc_last, ?_⟩
          show levI D₁.lims D₁.trail.length ≤ levI D₁.lims i
          rw [tl₁, cs.lims, hlevp, levI_take C.sorted hp higp]
          unfold Dat.lev at hlg; (first | lia | omega)
    · show D₁.head ≤ (D₁.trail ++ [f]).length
      have := G.ht; simp; (first | lia | omega)
    · intro q hq; show q < (D₁.trail ++ [f]).length
      simp only [List.length_append, List.length_singleton]; exact hltl q hq
    · show D₁.learned ++ [f :: g :: rest] = _; rw [cs.learned]
    · show (D₁.cls ++ [f :: g :: rest]).length ≤ _; simp [cs.cls]
    · show _ ≤ Bm D₁.lims (D₁.trail ++ [f]).length
      simp only [List.length_append, List.length_singleton]; exact up
end
-- W9
section
set_option compiler.extract_closed false
section
variable {a : Amb hd.heap_39} {A₀ : Around} {L : Addr} {m : Loc} {H : AHeap} {Q : Value → AHeap → Prop} {x : Addr} {A : Ad} {D : Dat} {M : (Nat → Bool) → Prop}
theorem LoopI.sz {A : Ad} {D D₂ : Dat} {H H₂ : AHeap} {Kp : Addr} {h₀ i : Nat} {f cf : Int} {rw kept : List Nat} (I : LoopI M x A D H Kp h₀ f rw i cf H₂ D₂ kept) (b : Bd D) (hr : rw.length ≤ 4000) : Sz D₂ := by
  have b₂ := b.grow I.grow
  have hr' : (D₂.wat.getD (slotN f) []).length ≤ 4000 := by rw [I.row]; exact hr
  rcases I.st with ⟨_, P⟩ | ⟨k, _, P⟩
  · exact sz_of P.core b₂ P.wl (rows_of P.wat b₂.cls hr')
  · exact sz_of P.core b₂ P.wl (rows_of P.wat b₂.cls hr')
theorem app_kp {KF : Params → Frag} {a : Amb KF} {env : Env} {e : Expr} {Kp : Addr} {vs : List Nat} (hK : H Kp = some (.list (vs.map vn))) (hq : JE a A₀ L m (eval e env) H (fun v H₂ => ∃ i : Nat, v = vn i ∧ H₂ = H ∧ vs.length ≤ 10000 ∧ Q .none (H.set Kp (.list ((vs ++ [i]).map vn))))) :
    AppOk a A₀ L m e env (.ref Kp) H Q :=
  ⟨Kp, _, rfl, hK, hq.mono fun v H₂ ⟨i, hv, e, hz, q⟩ => ⟨vs.map vn, by rw [e]; exact hK, by rw [List.length_map]; (first | lia | omega), by
    rw [List.map_append] at q
    rw [hv, e]; exact q⟩⟩
theorem ExtX.setX {X : Addr → Prop} {A : Ad} {H : AHeap} {l : Addr} {c : Cell} (h : X l) : ExtX X A H A (H.set l c) := fun b c' hb hn hx => ⟨by rw [AHeap.set_ne _ _ (fun e : b = l => hx (e ▸ h))]; exact hb, hn⟩
theorem LoopI.ra {A : Ad} {D D₂ : Dat} {H H₂ : AHeap} {Kp ra : Addr} {h₀ i : Nat} {f cf : Int} {rw kept : List Nat} (I : LoopI M x A D H Kp h₀ f rw i cf H₂ D₂ kept) (hra : A.row[slotN f]? = some ra) : H₂ ra = some (.list (rw.map vn)) := by
  have hlt : slotN f < D₂.wat.length := by
    rcases I.st with ⟨_, P⟩ | ⟨k, _, P⟩
    · rw [P.wl]; exact slotN_lt P.fl.2
    · rw [P.wl]; exact slotN_lt P.fl.2
  have := getD_get (d := []) hlt
  rw [I.row] at this
  exact I.sol.row _ _ _ hra this
theorem two_of {c : List Int} {f : Int} (h : c.getD 0 0 = f ∨ c.getD 1 0 = f) (h2 : 2 ≤ c.length) : ∃ w t, c = f :: w :: t ∨ (c = w :: f :: t ∧ w ≠ f) := by
  rcases c with _ | ⟨p, _ | ⟨q, t⟩⟩
  · simp at h2
  · simp at h2
  · by_cases e : p = f
    · subst e; exact ⟨q, t, .inl rfl⟩
    · simp at h
      rcases h with h | h
      · exact absurd h e
      · subst h; exact ⟨p, t, .inr ⟨rfl, e⟩⟩
theorem propagate_c (h : SolAt H x A D) (G : Good M D) (b : Bd D) (hR : Rm A₀ 5)
    (q1 : ∀ A' H' D', SolAt H' x A' D' → Ext A H A' H' → Grow D D' → Good M D' → D'.head = D'.trail.length → Q (vi (-1)) H')
    (q2 : ∀ A' H' D' h₀ k, SolAt H' x A' D' → Ext A H A' H' → Grow D D' → Conf M D' h₀ k → h₀ < D'.trail.length → Q (vn k) H') : CA a A₀ L m (.ref 117) [.ref x] H Q := by
  refine c_def1 (p := Str.ofString "self") (at_propagate _) (cd_propagate _) hR (fun _ => by with_unfolding_all rfl) (by decide) (by decide) (fun L' A' R' => ?_)
  walk_at "xs"
  refine s_while (fun j m₁ H₁ => ∃ A₁ D₁, j = 10 - D₁.head ∧ m₁ (Str.ofString "self") = some (.ref x) ∧ SolAt H₁ x A₁ D₁ ∧ Ext A H A₁ H₁ ∧ Grow D D₁ ∧ Good M D₁) (10 - D.head) ⟨A, D, rfl, by walk_at "loc", h, Ext.refl _ _, Grow.refl _, G⟩ ?_
  rintro j m₁ H₁ ⟨A₁, D₁, rfl, hm1, h₁, e₁, g₁, G₁⟩
  have b₁ := b.grow g₁
  have z₁ := G₁.sz b₁
  have zt := z₁.trail
  have zn := z₁.n
  walk_at "xs"
  refine c_len_list h₁.trail (by rw [List.length_map]; (first | lia | omega)) ?_
  rw [List.length_map]
  walk_at "xs"
  refine ite_d (fun hlt => ?_) (fun hlt => ?_)
  · have hlt' : D₁.head < D₁.trail.length := by (first | lia | omega)
    have hh5 : D₁.head < 10 := by have := G₁.core.tlen; (first | lia | omega)
    walk_at "xs"
    refine r_trailN (fun _ _ => ⟨_, rfl⟩) h₁ (by (first | lia | omega)) (by (first | lia | omega)) ?_
    have htr : D₁.trail[D₁.head]? = some (D₁.trail.getD D₁.head 0) := getD_get hlt'
    generalize D₁.trail.getD D₁.head 0 = l at *
    have P₀ := PV.start G₁ htr
    walk_at "xs"
    generalize hf : -l = f at *
    intro v' x' hv hx
    refine w_head (D₁.head + 1) h₁ hx (by rw [hv]; show Value.int _ _ = Value.int _ _; congr 1) ?_
    have h₂ := h₁.set_dict D₁.n D₁.step (D₁.head + 1) D₁.refuted
    have e₂ : Ext A H A₁ (H₁.set A₁.d (.attrs (sfs A₁ { D₁ with head := D₁.head + 1 }))) := e₁.trans (Ext.set (own_d A₁))
    have s0 := slotI_nonneg f
    have s1 := slotI_lt P₀.fl.2
    have zwl := P₀.wl
    (try dsimp only at s1 zwl)
    walk_at "xs"
    refine CA.oc (slot_c (l := f) (R'.le (by (first | lia | omega))) ?_)
    refine r_wat (fun _ _ => ⟨_, rfl⟩) h₂ s0 (by (try dsimp only); (first | lia | omega)) (by (try dsimp only); (first | lia | omega)) fun ra hra => ?_
    walk_at "xs"
    refine ⟨by simp, fun Kp hKp => ?_⟩
    have h₃ := h₂.beside (c := .list []) hKp
    have ko := h₂.fresh_own hKp
    have e₃ := e₂.trans (Ext.fresh (c := .list []) hKp)
    have hrl : (D₁.wat.getD (slotN f) []).length ≤ 1900 := by have := row_len (G₁.wat.nd (slotN f)) (G₁.wat.lt (slotN f)); have := b₁.cls; (first | lia | omega)
    have hrw : (D₁.wat.getD (slotN f) []) = (D₁.wat.getD (slotN f) []) := rfl
    generalize hrw' : D₁.wat.getD (slotN f) [] = rw at *
    have b₃ : Bd { D₁ with head := D₁.head + 1 } := ⟨b₁.lims, b₁.cls, b₁.learned, b₁.found, b₁.acts⟩
    have hra0 : (H₁.set A₁.d (.attrs (sfs A₁ { D₁ with head := D₁.head + 1 })) |>.set Kp (.list [])) ra = some (.list (rw.map vn)) := h₃.row _ _ _ hra (by
      have := getD_get (l := D₁.wat) (i := slotN f) (d := []) (by rw [zwl]; exact slotN_lt P₀.fl.2)
      rw [hrw'] at this; exact this)
    walk_at "xs"
    generalize hH₃ : (H₁.set A₁.d (.attrs (sfs A₁ { D₁ with head := D₁.head + 1 }))).set Kp (.list []) = H₃ at *
    have hkp3 : H₃ Kp = some (.list (([] : List Nat).map vn)) := by rw [← hH₃]; exact AHeap.set_same ..
    refine s_for (fun _ => rfl) (fun _ _ => rfl) R'.handled ?_
    walk_at "xs"
    refine ⟨_, _, fun i m₂ H₂ => ∃ D₂ kept cf, m₂ (Str.ofString "self") = some (.ref x) ∧ m₂ (Str.ofString "false") = some (vi f) ∧ m₂ (Str.ofString "kept") = some (.ref Kp) ∧ m₂ (Str.ofString "conflict") = some (vi cf) ∧ LoopI M x A₁ { D₁ with head := D₁.head + 1 } H₃ Kp D₁.head f rw i cf H₂ D₂ kept, .list hra0,
      ⟨{ D₁ with head := D₁.head + 1 }, [], -1, by walk_at "loc", by walk_at "loc", by walk_at "loc", by walk_at "loc", h₃, hkp3, fun b c hb ho _ => ⟨hb, ho⟩, Grow.refl _, rfl, hrw', .inl ⟨rfl, by simpa using P₀⟩⟩, ?_, ?_⟩
    · rintro i v m₂ H₂ hv ⟨D₂, kept, cf, hm1, hm2, hm3, hm4, I⟩ hKr v' hv'
      obtain ⟨k, hk, rfl⟩ : ∃ k, rw[i]? = some k ∧ v = vn k := by
        rw [List.getElem?_map] at hv; obtain ⟨k, h1, h2⟩ := Option.map_eq_some_iff.mp hv; exact ⟨k, h1, h2.symm⟩
      have z₂ := I.sz b₃ (by (first | lia | omega))
      have hI := I.sol
      have b₂ := b₃.grow I.grow
      have hdk : rw.drop i = k :: rw.drop (i + 1) := drop_cons hk
      have hap : kept ++ rw.drop i = (kept ++ [k]) ++ rw.drop (i + 1) := by rw [hdk]; simp
      have hkl : kept.length ≤ 1900 := by
        have : (kept ++ rw.drop i).length ≤ D₂.cls.length := by
          rcases I.st with ⟨_, P⟩ | ⟨k, _, P⟩
          · have := row_len (P.wat.nd (slotN f)) (P.wat.lt (slotN f)); rw [if_pos rfl] at this; exact this
          · have := row_len (P.wat.nd (slotN f)) (P.wat.lt (slotN f)); rw [if_pos rfl] at this; exact this
        rw [List.length_append] at this
        have := b₂.cls; (first | lia | omega)
      walk_at "xs"
      refine ite_d (fun hc => ?_) (fun hc => ?_)
      · obtain ⟨k', hk', P⟩ : ∃ k' : Nat, cf = k' ∧ Cf M D₂ D₁.head f (kept ++ rw.drop i) k' := by
          rcases I.st with ⟨e, _⟩ | h
          · (first | lia | omega)
          · exact h
        walk_at "xs"
        refine app_kp I.kp ?_
        walk_at "xs"
        refine ⟨_, rfl, rfl, by (first | lia | omega), ?_⟩
        walk_at "xs"
        refine ite_d (fun hc' => by exfalso; (first | lia | omega)) (fun _ => ?_)
        walk_at "xs"
        have I' : LoopI M x A₁ { D₁ with head := D₁.head + 1 } H₃ Kp D₁.head f rw (i + 1) cf (H₂.set Kp (.list ((kept ++ [k]).map vn))) D₂ (kept ++ [k]) :=
          ⟨I.sol.aside I.kp ko, AHeap.set_same .., I.ext.trans (ExtX.setX rfl), I.grow, I.head, I.row, .inr ⟨k', hk', by rw [← hap]; exact P⟩⟩
        exact ⟨⟨D₂, kept ++ [k], cf, by walk_at "loc", by walk_at "loc", by walk_at "loc", by walk_at "loc", I'⟩, I'.ra hra⟩
      · obtain ⟨ecf, P⟩ : cf = -1 ∧ PV M D₂ D₁.head f kept (k :: rw.drop (i + 1)) := by
          rcases I.st with h | ⟨k', e, _⟩
          · rw [hdk] at h; exact h
          · (first | lia | omega)
        have hkc : D₂.cls[k]? = some (D₂.cls[k]'P.k_lt) := List.getElem?_eq_getElem P.k_lt
        generalize D₂.cls[k]'P.k_lt = c at hkc
        obtain ⟨w, t, hcw⟩ := two_of (P.front hkc).1 (P.front hkc).2
        have P₁ : PV M { D₂ with cls := D₂.cls.set k (w :: f :: t) } D₁.head f kept (k :: rw.drop (i + 1)) := by
          rcases hcw with e | ⟨e, _⟩
          · subst e; exact P.swap hkc
          · subst e; rw [set_same_get hkc]; exact P
        have hk1 : (D₂.cls.set k (w :: f :: t))[k]? = some (w :: f :: t) := List.getElem?_set_self P.k_lt
        have hwl : Lit D₂.n w := P₁.core.clit _ (List.mem_of_getElem? hk1) w (by simp)
        have htl : ∀ l ∈ t, Lit D₂.n l := fun l hl => P₁.core.clit _ (List.mem_of_getElem? hk1) l (by simp [hl])
        walk_at "xs"
        refine CA.oc (still_watched_c I.sol z₂ hkc hcw (R'.le (by (first | lia | omega))) (fun H₄ h₄ e₄ hval => ?_) (fun H₄ j y hj hw hy h₄ e₄ => ?_))
        · have hkp4 := (e₄ Kp _ I.kp ko).1
          walk_at "xs"
          refine app_kp hkp4 ?_
          walk_at "xs"
          refine ⟨_, rfl, rfl, by (first | lia | omega), ?_⟩
          have h₅ := h₄.aside (c := .list ((kept ++ [k]).map vn)) hkp4 ko
          have e₅ : ExtX (· = Kp) A₁ H₃ A₁ (H₄.set Kp (.list ((kept ++ [k]).map vn))) := (I.ext.trans e₄.toX).trans (ExtX.setX rfl)
          have hkp5 := AHeap.set_same H₄ Kp (.list ((kept ++ [k]).map vn))
          generalize H₄.set Kp (.list ((kept ++ [k]).map vn)) = H₅ at *
          walk_at "xs"
          refine ite_d (fun _ => ?_) (fun hc' => by exfalso; (first | lia | omega))
          walk_at "xs"
          have z₅ : Sz { D₂ with cls := D₂.cls.set k (w :: f :: t) } := sz_of P₁.core (b₂.grow (grow_cls D₂ k _)) P₁.wl (rows_of P₁.wat (by rw [List.length_set]; exact b₂.cls) (by rw [I.row]; (first | lia | omega)))
          have hg0 : ((D₂.cls.set k (w :: f :: t)).getD k []).getD 0 0 = w := by rw [get?_getD hk1]; rfl
          refine CA.oc (forces_c h₅ z₅ (by rw [List.length_set]; exact P.k_lt) (R'.le (by (first | lia | omega))) fun H₆ D₆ hD₆ h₆ e₆ => ?_)
          dsimp only at hD₆
          rw [hg0] at hD₆ ⊢
          have e₆' : ExtX (· = Kp) A₁ H₃ A₁ H₆ := e₅.trans e₆.toX
          have hkp6 := (e₆ Kp _ hkp5 ko).1
          walk_at "xs"
          by_cases hv1 : valI D₂.vals w = 1
          · rw [if_neg (by (first | lia | omega))] at hD₆
            subst hD₆
            have I' : LoopI M x A₁ { D₁ with head := D₁.head + 1 } H₃ Kp D₁.head f rw (i + 1) cf H₆ { D₂ with cls := D₂.cls.set k (w :: f :: t) } (kept ++ [k]) :=
              ⟨h₆, hkp6, e₆', I.grow.trans (grow_cls ..), I.head, I.row, .inl ⟨ecf, P₁.keep hk1 ((P.core.val_pos hwl).mp hv1)⟩⟩
            refine ite_d (fun hc' => by (try dsimp only at hc'); (first | lia | omega)) (fun _ => ?_)
            walk_at "xs"
            exact ⟨⟨_, _, cf, by walk_at "loc", by walk_at "loc", by walk_at "loc", by walk_at "loc", I'⟩, I'.ra hra⟩
          · have hta : ∀ l ∈ t, -l ∈ D₂.trail := by
              rcases hval with h | h
              · exact absurd h hv1
              · exact fun l hl => (P.core.val_neg (htl l hl)).mp (h l hl)
            by_cases hv0 : valI D₂.vals w = 0
            · rw [if_pos hv0] at hD₆
              subst hD₆
              obtain ⟨n1, n2⟩ := (P.core.val_zero hwl).mp hv0
              have P₂ := P₁.assign hk1 n1 n2 hta
              have P₃ := P₂.keep hk1 (by show w ∈ D₂.trail ++ [w]; simp)
              have I' : LoopI M x A₁ { D₁ with head := D₁.head + 1 } H₃ Kp D₁.head f rw (i + 1) cf H₆ (({ D₂ with cls := D₂.cls.set k (w :: f :: t) } : Dat).assign w k) (kept ++ [k]) :=
                ⟨h₆, hkp6, e₆', (I.grow.trans (grow_cls ..)).trans (grow_assign ..), I.head, I.row, .inl ⟨ecf, P₃⟩⟩
              have hv : valI (({ D₂ with cls := D₂.cls.set k (w :: f :: t) } : Dat).assign w k).vals w = 1 := (P₃.core.val_pos hwl).mpr (by show w ∈ D₂.trail ++ [w]; simp)
              refine ite_d (fun hc' => by exfalso; (first | lia | omega)) (fun _ => ?_)
              walk_at "xs"
              exact ⟨⟨_, _, cf, by walk_at "loc", by walk_at "loc", by walk_at "loc", by walk_at "loc", I'⟩, I'.ra hra⟩
            · have hvn : valI D₂.vals w < 0 := by
                have := P.core.val hwl
                by_cases e1 : w ∈ D₂.trail
                · rw [if_pos e1] at this; exact absurd this hv1
                · rw [if_neg e1] at this
                  by_cases e2 : -w ∈ D₂.trail
                  · rw [if_pos e2] at this; (first | lia | omega)
                  · rw [if_neg e2] at this; exact absurd this hv0
              rw [if_neg (by exact hv0)] at hD₆
              subst hD₆
              have C₁ := P₁.cf hk1 ((P.core.val_neg hwl).mp hvn) hta
              rw [show kept ++ k :: List.drop (i + 1) rw = (kept ++ [k]) ++ List.drop (i + 1) rw by simp] at C₁
              have I' : LoopI M x A₁ { D₁ with head := D₁.head + 1 } H₃ Kp D₁.head f rw (i + 1) k H₆ { D₂ with cls := D₂.cls.set k (w :: f :: t) } (kept ++ [k]) :=
                ⟨h₆, hkp6, e₆', I.grow.trans (grow_cls ..), I.head, I.row, .inr ⟨k, rfl, C₁⟩⟩
              refine ite_d (fun _ => ?_) (fun hc' => absurd hvn hc')
              walk_at "xs"
              exact ⟨⟨_, _, k, by walk_at "loc", by walk_at "loc", by walk_at "loc", by walk_at "loc", I'⟩, I'.ra hra⟩
        · walk_at "xs"
          have hyl := htl y (List.mem_of_getElem? hj)
          have hyn : -y ∉ D₂.trail := fun h => by have := (P.core.val_neg hyl).mpr h; (first | lia | omega)
          have hyf : slotN y ≠ slotN f := fun e => hyn (slotN_inj e ▸ P.neg_mem)
          have P₂ := P₁.move hk1 hj hyn
          rw [show ({ ({ D₂ with cls := D₂.cls.set k (w :: f :: t) } : Dat) with cls := (D₂.cls.set k (w :: f :: t)).set k (w :: y :: t.set j f) } : Dat) = { D₂ with cls := D₂.cls.set k (w :: y :: t.set j f) } by rw [List.set_set]] at P₂
          have I' : LoopI M x A₁ { D₁ with head := D₁.head + 1 } H₃ Kp D₁.head f rw (i + 1) cf H₄ (({ D₂ with cls := D₂.cls.set k (w :: y :: t.set j f) } : Dat).push (slotN y) k) kept :=
            ⟨h₄, (e₄ Kp _ I.kp ko).1, I.ext.trans e₄.toX, (I.grow.trans (grow_cls ..)).trans (grow_push ..), I.head, by rw [← I.row]; exact getD_set_ne hyf, .inl ⟨ecf, P₂⟩⟩
          exact ⟨⟨_, _, cf, by walk_at "loc", by walk_at "loc", by walk_at "loc", by walk_at "loc", I'⟩, I'.ra hra⟩
    · rintro m₂ H₂ ⟨D₂, kept, cf, hm1, hm2, hm3, hm4, I⟩
      have I := I
      have hI := I.sol
      have hst := I.st
      rw [List.length_map, List.drop_length] at hst
      have hdn : D₂.n = D₁.n := I.grow.n
      have hwl2 : D₂.wat.length = 2 * D₂.n + 2 := by
        rcases hst with ⟨_, P⟩ | ⟨_, _, P⟩ <;> exact P.wl
      have hrl2 := hI.rowlen
      walk_at "xs"
      refine CA.oc (slot_c (l := f) (R'.le (by (first | lia | omega))) ?_)
      walk_at "xs"
      intro v' x' y' hv hx hy
      have hb := hI.bind_row (j := slotN f) (by rw [hrl2, hwl2, hdn]; exact slotN_lt P₀.fl.2) I.kp ko
      refine u_setR hx hy hv hI.wat s0 (by rw [hrl2, hwl2, hdn]; exact s1) (by (first | lia | omega)) ?_
      rw [show (slotI f).toNat = slotN f from rfl]
      have ef : Ext A H { A₁ with row := A₁.row.set (slotN f) Kp } (H₂.set A₁.wat (.list ((A₁.row.set (slotN f) Kp).map .ref))) := by
        intro b c hb hbo
        obtain ⟨g1, g2⟩ := e₃ b c hb hbo
        obtain ⟨g1', g2'⟩ := e₂ b c hb hbo
        have hbk : b ≠ Kp := fun e => by rw [e, hKp] at g1'; cases g1'
        obtain ⟨g3, _⟩ := I.ext b c g1 g2 hbk
        exact ⟨by rw [AHeap.set_ne _ _ (fun e : b = A₁.wat => g2 (e ▸ own_wat A₁))]; exact g3, fun o => (own_row_set o).elim g2 hbk⟩
      have gf : Grow D { D₂ with wat := D₂.wat.set (slotN f) kept } := by
        have g := g₁.trans ((show Grow D₁ { D₁ with head := D₁.head + 1 } from ⟨rfl, rfl, rfl, rfl, rfl, rfl, rfl, rfl, rfl, [], by simp⟩).trans I.grow)
        exact ⟨g.n, g.phas, g.learned, g.refuted, g.found, g.acts, g.step, g.lims, g.cls, g.pre⟩
      walk_at "xs"
      refine ite_d (fun hc => ?_) (fun hc => ?_)
      · walk_at "xs"
        rcases hst with ⟨e, _⟩ | ⟨k, e, P⟩
        · (first | lia | omega)
        · rw [e]
          rw [List.append_nil] at P
          exact q2 _ _ _ _ _ hb ef gf P.stop (get?_lt P.tr)
      · rcases hst with ⟨e, P⟩ | ⟨k, e, P⟩
        · walk_at "xs"
          have G₂ := P.stop I.head
          refine ⟨10 - (D₁.head + 1), by (first | lia | omega), _, _, ?_, by walk_at "loc", hb, ef, gf, G₂⟩
          have := I.head
          (try dsimp only); (first | lia | omega)
        · (first | lia | omega)
  · walk_at "xs"
    exact q1 _ _ _ h₁ e₁ g₁ G₁ (by have := G₁.ht; (first | lia | omega))
end
end
-- W10
section
set_option compiler.extract_closed false
section
variable {a : Amb hd.heap_39} {A₀ : Around} {L : Addr} {m : Loc} {H : AHeap} {Q : Value → AHeap → Prop} {x : Addr} {A : Ad} {D : Dat} {M : (Nat → Bool) → Prop}
theorem swap_perm {c : List Int} {b : Nat} (hb : b < c.length) : ((c.set 0 (c.getD b 0)).set b (c.getD 0 0)).Perm c := by
  rcases c with _ | ⟨p, t⟩
  · simp at hb
  · cases b with
    | zero => simp
    | succ j =>
      have hj : j < t.length := by simpa using hb
      have : t[j]? = some ((p :: t).getD (j + 1) 0) := by simp [List.getD, hj]
      simp only [List.set_cons_zero, List.set_cons_succ, List.getD_cons_zero]
      exact PV.perm_move this
theorem swap_head {c : List Int} {b : Nat} (hb : b < c.length) : ((c.set 0 (c.getD b 0)).set b (c.getD 0 0)).getD 0 0 = c.getD b 0 := by
  rcases c with _ | ⟨p, t⟩
  · simp at hb
  · cases b with
    | zero => simp
    | succ j => simp
theorem ExtX.fresh {X : Addr → Prop} {A : Ad} {H : AHeap} {b : Addr} {c : Cell} (hb : H b = none) : ExtX X A H A (H.set b c) := (Ext.fresh hb).toX
theorem ExtX.back {X : Addr → Prop} {D₁ : Dat} {A : Ad} {H H₁ : AHeap} (e : ExtX X A H A H₁) (h₁ : SolAt H₁ x A D₁) (hX : ∀ b, X b → ∃ c, H₁ b = some c) {b : Addr} (hb : H₁ b = none) : H b = none := by
  cases z : H b with
  | none => rfl
  | some c =>
    exfalso
    by_cases o : Own A b
    · obtain ⟨c', hc'⟩ := h₁.own_some o; rw [hb] at hc'; cases hc'
    · by_cases x : X b
      · obtain ⟨c', hc'⟩ := hX b x; rw [hb] at hc'; cases hc'
      · have := (e b c z o x).1; rw [hb] at this; cases this
theorem ordered_c {Rs : Addr} {f : Int} {rest : List Int} (h : SolAt H x A D) (z : Sz D) (hb : H Rs = some (.list (rest.map vi))) (ho : ¬ Own A Rs) (hl : ∀ l ∈ rest, l.natAbs ≤ D.n) (hz : rest.length ≤ 100) (hR : Rm A₀ 1)
    (q : ∀ H' T C rest', SolAt H' x A D → ExtX (· = Rs) A H A H' → H' T = some (.tuple [.ref C, vi (if rest = [] then 0 else D.levs.getD (rest'.getD 0 0).natAbs 0)]) → H' C = some (.list ((f :: rest').map vi)) → ¬ Own A C → H C = none → rest'.Perm rest →
      (∀ l ∈ rest, D.levs.getD l.natAbs 0 ≤ D.levs.getD (rest'.getD 0 0).natAbs 0) → Q (.ref T) H') : CA a A₀ L m (.ref 152) [.ref x, vi f, .ref Rs] H Q := by
  refine c_def3 (p := Str.ofString "self") (q := Str.ofString "first") (r := Str.ofString "rest") (at_ordered _) (cd_ordered _) hR (fun _ _ _ => by with_unfolding_all rfl) (by decide) (by decide) (fun L' A' R' => ?_)
  have zn := z.n
  have zl := z.levs
  walk_at "xs"
  refine s_for (fun _ => rfl) (fun _ _ => rfl) R'.handled ?_
  walk_at "xs"
  refine c_len_list hb (by rw [List.length_map]; (first | lia | omega)) ?_
  rw [List.length_map]
  walk_at "xs"
  refine c_range2 fun R hRn => ?_
  have hs := h.beside (c := .range 1 rest.length) hRn
  have es : ExtX (· = Rs) A H A (H.set R (.range 1 rest.length)) := ExtX.fresh hRn
  have hbs : (H.set R (.range 1 rest.length)) Rs = some (.list (rest.map vi)) := by rw [AHeap.set_ne _ _ (fun e => by rw [e, hRn] at hb; cases hb)]; exact hb
  have hRr : (H.set R (.range 1 (rest.length : Int))) R = some (.range 1 rest.length) := AHeap.set_same ..
  generalize H.set R (.range 1 (rest.length : Int)) = H₁ at *
  refine ⟨_, _, fun i m₁ H₂ => ∃ b : Nat, m₁ (Str.ofString "self") = some (.ref x) ∧ m₁ (Str.ofString "first") = some (vi f) ∧ m₁ (Str.ofString "rest") = some (.ref Rs) ∧ m₁ (Str.ofString "best") = some (vn b) ∧ H₂ = H₁ ∧ b ≤ i ∧ ∀ j, j ≤ i → j < rest.length → D.levs.getD (rest.getD j 0).natAbs 0 ≤ D.levs.getD (rest.getD b 0).natAbs 0,
    .range hRr (natAbs_small (by (first | lia | omega)) (by (first | lia | omega))) (natAbs_small (by (first | lia | omega)) (by (first | lia | omega))), ⟨0, by walk_at "loc", by walk_at "loc", by walk_at "loc", by exact Loc.set_same _ _ _, rfl, by (first | lia | omega), fun j hj _ => by rw [show j = 0 by (first | lia | omega)]; exact Int.le_refl _⟩, ?_, ?_⟩
  · rintro i v m₁ H₂ hv ⟨b, hm1, hm2, hm3, hm4, rfl, hbi, hmax⟩ _ v' hv'
    obtain ⟨rfl, hi⟩ := rangeV_inv hv
    have hi' : i + 1 < rest.length := by (first | lia | omega)
    have g1 : (rest.getD (i + 1) 0).natAbs ≤ D.n := hl _ (getD_mem hi')
    have g2 : (rest.getD b 0).natAbs ≤ D.n := hl _ (getD_mem (by (first | lia | omega)))
    walk_at "xs"
    refine o_item (fun _ _ => ⟨_, rfl⟩) hbs (by (first | lia | omega)) (map_get (d := 0) (by (first | lia | omega))) (by simp; (first | lia | omega)) ?_
    rw [show (1 + (i : Int)).toNat = i + 1 by (first | lia | omega)]
    walk_at "xs"
    refine r_levsN (fun _ _ => ⟨_, rfl⟩) hs (by (first | lia | omega)) (by (first | lia | omega)) ?_
    walk_at "xs"
    refine o_itemN 0 (fun _ _ => ⟨_, rfl⟩) hbs (by (first | lia | omega)) (by (first | lia | omega)) ?_
    walk_at "xs"
    refine r_levsN (fun _ _ => ⟨_, rfl⟩) hs (by (first | lia | omega)) (by (first | lia | omega)) ?_
    walk_at "xs"
    refine ite_d (fun hg => ?_) (fun hg => ?_)
    · walk_at "xs"
      refine ⟨⟨i + 1, by walk_at "loc", by walk_at "loc", by walk_at "loc", ?_, rfl, by (first | lia | omega), fun j hj hjl => ?_⟩, trivial⟩
      · rw [vn_succ]; walk_at "loc"
      · by_cases e : j = i + 1
        · rw [e]; exact Int.le_refl _
        · exact Int.le_trans (hmax j (by (first | lia | omega)) hjl) (Int.le_of_lt hg)
    · walk_at "xs"
      refine ⟨⟨b, by walk_at "loc", by walk_at "loc", by walk_at "loc", by walk_at "loc", rfl, by (first | lia | omega), fun j hj hjl => ?_⟩, trivial⟩
      by_cases e : j = i + 1
      · rw [e]; (first | lia | omega)
      · exact hmax j (by (first | lia | omega)) hjl
  · rintro m₁ H₂ ⟨b, hm1, hm2, hm3, hm4, rfl, hbi, hmax⟩
    rw [rangeV_length] at hbi hmax
    walk_at "xs"
    refine t_list hbs (by simp; (first | lia | omega)) ?_
    walk_at "xs"
    rcases Nat.eq_zero_or_pos rest.length with e0 | e0
    · have er0 : rest = [] := List.length_eq_zero_iff.mp e0
      subst er0
      refine ite_b (fun _ => ?_) (fun hn => by simp at hn)
      walk_at "xs"
      refine ⟨by simp, fun C hC => ?_⟩
      walk_at "xs"
      refine ⟨by simp, fun T hT => ?_⟩
      have hco := hs.fresh_own hC
      have h₃ := hs.beside (c := .list [vi f]) hC
      have h₄ := h₃.beside (c := .tuple [.ref C, vi 0]) hT
      refine q _ T C [] h₄ ((es.trans (ExtX.fresh hC)).trans (ExtX.fresh hT)) (by rw [AHeap.set_same, if_pos rfl]) ?_ hco (es.back hs (fun b (hb : b = Rs) => hb.symm ▸ ⟨_, hbs⟩) hC) (List.Perm.refl _) (fun l hl => by cases hl)
      rw [AHeap.set_ne _ _ (fun e => by rw [← e, AHeap.set_same] at hT; cases hT), AHeap.set_same]; rfl
    · have er0 : rest ≠ [] := fun e => by rw [e] at e0; simp at e0
      have hbl : b < rest.length := by (first | lia | omega)
      refine ite_b (fun hn => by simp [er0] at hn) (fun _ => ?_)
      walk_at "xs"
      refine s_assign_tuple2 R'.handled rfl rfl rfl ?_
      walk_at "xs"
      refine o_itemN 0 (fun _ _ => ⟨_, rfl⟩) hbs (by (first | lia | omega)) (by (first | lia | omega)) ?_
      walk_at "xs"
      refine o_item (fun _ _ => ⟨_, rfl⟩) hbs (by (first | lia | omega)) (map_get (i := 0) (d := 0) (by (first | lia | omega))) (by simp; (first | lia | omega)) ?_
      walk_at "xs"
      refine ⟨by simp, fun T₀ hT₀ => ?_⟩
      have hs₁ := hs.beside (c := .tuple [vi (rest.getD b 0), vi (rest.getD 0 0)]) hT₀
      have hbs₁ : (H₂.set T₀ (.tuple [vi (rest.getD b 0), vi (rest.getD 0 0)])) Rs = some (.list (rest.map vi)) := by rw [AHeap.set_ne _ _ (fun e => by rw [e, hT₀] at hbs; cases hbs)]; exact hbs
      refine ⟨T₀, vi (rest.getD b 0), vi (rest.getD 0 0), rfl, AHeap.set_same .., fun v₁ v₂ hv1 hv2 => ?_⟩
      have es₁ := es.trans (ExtX.fresh (X := (· = Rs)) (A := A) (c := .tuple [vi (rest.getD b 0), vi (rest.getD 0 0)]) hT₀)
      generalize H₂.set T₀ (.tuple [vi (rest.getD b 0), vi (rest.getD 0 0)]) = H₃ at *
      refine u_sub ?_
      walk_at "xs"
      intro x' y' hx hy
      refine u_setI hx hy hv1 hbs₁ (by (first | lia | omega)) (by (first | lia | omega)) (by (first | lia | omega)) ?_
      have hs₂ := hs₁.aside (c := .list ((rest.set (Int.toNat 0) (rest.getD b 0)).map vi)) hbs₁ ho
      have hbs₂ := AHeap.set_same H₃ Rs (.list ((rest.set (Int.toNat 0) (rest.getD b 0)).map vi))
      have es₂ := es₁.trans (ExtX.setX (X := (· = Rs)) (A := A) (H := H₃) (l := Rs) (c := .list ((rest.set (Int.toNat 0) (rest.getD b 0)).map vi)) rfl)
      generalize H₃.set Rs (.list ((rest.set (Int.toNat 0) (rest.getD b 0)).map vi)) = H₄ at *
      refine u_sub ?_
      walk_at "xs"
      intro x' y' hx hy
      refine u_setI hx hy hv2 hbs₂ (by (first | lia | omega)) (by simp; (first | lia | omega)) (by simp; (first | lia | omega)) ?_
      have hs₃ := hs₂.aside (c := .list (((rest.set (Int.toNat 0) (rest.getD b 0)).set (Int.toNat (b : Int)) (rest.getD 0 0)).map vi)) hbs₂ ho
      have hbs₃ := AHeap.set_same H₄ Rs (.list (((rest.set (Int.toNat 0) (rest.getD b 0)).set (Int.toNat (b : Int)) (rest.getD 0 0)).map vi))
      have es₃ := es₂.trans (ExtX.setX (X := (· = Rs)) (A := A) (H := H₄) (l := Rs) (c := .list (((rest.set (Int.toNat 0) (rest.getD b 0)).set (Int.toNat (b : Int)) (rest.getD 0 0)).map vi)) rfl)
      generalize H₄.set Rs (.list (((rest.set (Int.toNat 0) (rest.getD b 0)).set (Int.toNat (b : Int)) (rest.getD 0 0)).map vi)) = H₅ at *
      rw [Int.toNat_natCast, show Int.toNat 0 = 0 from rfl] at hbs₃
      have hp := swap_perm hbl
      have hh := swap_head hbl
      generalize (rest.set 0 (rest.getD b 0)).set b (rest.getD 0 0) = rest' at *
      have hlen := hp.length_eq
      have g0 : (rest'.getD 0 0).natAbs ≤ D.n := by rw [hh]; exact hl _ (getD_mem hbl)
      walk_at "xs"
      refine ⟨by simp, fun F hF => ?_⟩
      have hs₄ := hs₃.beside (c := .list [vi f]) hF
      have hbs₄ : (H₅.set F (.list [vi f])) Rs = some (.list (rest'.map vi)) := by rw [AHeap.set_ne _ _ (fun e => by rw [e, hF] at hbs₃; cases hbs₃)]; exact hbs₃
      have es₄ := es₃.trans (ExtX.fresh (X := (· = Rs)) (A := A) (c := .list [vi f]) hF)
      have hF4 := AHeap.set_same H₅ F (.list [vi f])
      generalize H₅.set F (.list [vi f]) = H₆ at *
      walk_at "xs"
      refine o_add_lists hF4 hbs₄ (by simp; (first | lia | omega)) fun C hC => ?_
      have hco := hs₄.fresh_own hC
      have hs₅ := hs₄.beside (c := .list ([vi f] ++ rest'.map vi)) hC
      have es₅ := es₄.trans (ExtX.fresh (X := (· = Rs)) (A := A) (c := .list ([vi f] ++ rest'.map vi)) hC)
      have hbs₅ : (H₆.set C (.list ([vi f] ++ rest'.map vi))) Rs = some (.list (rest'.map vi)) := by rw [AHeap.set_ne _ _ (fun e => by rw [e, hC] at hbs₄; cases hbs₄)]; exact hbs₄
      have hC5 := AHeap.set_same H₆ C (.list ([vi f] ++ rest'.map vi))
      generalize H₆.set C (.list ([vi f] ++ rest'.map vi)) = H₇ at *
      walk_at "xs"
      refine o_item (fun _ _ => ⟨_, rfl⟩) hbs₅ (by (first | lia | omega)) (map_get (i := 0) (d := 0) (by (first | lia | omega))) (by simp; (first | lia | omega)) ?_
      walk_at "xs"
      refine r_levsN (fun _ _ => ⟨_, rfl⟩) hs₅ (by (first | lia | omega)) (by (first | lia | omega)) ?_
      walk_at "xs"
      refine ⟨by simp, fun T hT => ?_⟩
      refine q _ T C rest' (hs₅.beside hT) (es₅.trans (ExtX.fresh hT)) (by rw [AHeap.set_same, if_neg er0]) ?_ hco (es₄.back hs₄ (fun b (hb : b = Rs) => hb.symm ▸ ⟨_, hbs₄⟩) hC) hp (fun l hl => ?_)
      · rw [AHeap.set_ne _ _ (fun e => by rw [e, hT] at hC5; cases hC5)]; exact hC5
      · obtain ⟨j, hj⟩ := List.getElem?_of_mem hl
        have hjl := (List.getElem?_eq_some_iff.mp hj).1
        have := hmax j (by (first | lia | omega)) hjl
        rw [get?_getD hj] at this
        rw [hh]; exact this
end
end
-- W11
section
set_option compiler.extract_closed false
theorem Scan.ext {D : Dat} {S : List Bool} {sk l : Int} {c : List Int} {i : Nat} (s : Scan D S sk (c.take i)) (hi : c[i]? = some l) (h : l ≠ sk → ∀ t, D.trail[t]? = some (-l) → 0 < D.lev t → S.getD l.natAbs false = true) : Scan D S sk (c.take (i + 1)) := by
  intro x hx
  rw [List.take_add_one, hi] at hx
  simp only [Option.toList_some, List.mem_append, List.mem_singleton] at hx
  rcases hx with hx | rfl
  · exact s x hx
  · exact h
theorem Scan.set {D : Dat} {S : List Bool} {sk : Int} {c : List Int} {v : Nat} (s : Scan D S sk c) (hv : v < S.length) : Scan D (S.set v true) sk c := fun l hl hne t ht h0 => (getD_set_true hv).mpr (.inr (s l hl hne t ht h0))
theorem Ext.ofX {X : Addr → Prop} {A A₁ A' : Ad} {H H₁ H' : AHeap} (e : Ext A H A₁ H₁) (f : ExtX X A₁ H₁ A' H') (hX : ∀ b, X b → H b = none) : Ext A H A' H' := fun b c hb ho => let ⟨h1, o1⟩ := e b c hb ho; f b c h1 o1 (fun hx => by rw [hX b hx] at hb; cases hb)
section
variable {a : Amb hd.heap_39} {A₀ : Around} {L : Addr} {m : Loc} {H : AHeap} {Q : Value → AHeap → Prop} {x : Addr} {A : Ad} {D : Dat} {M : (Nat → Bool) → Prop}
theorem u_setB {KF : Params → Frag} {a : Amb KF} {l : Addr} {ns : List Bool} {k : Int} {i : Bool} {u y v : Value} {QU : Loc → AHeap → Prop} (hx : er u = .ref l) (hy : er y = vi k) (hv : er v = vb i) (h : H l = some (.list (ns.map vb))) (h0 : 0 ≤ k) (hk : k < ns.length) (hs : ns.length < 2 ^ 60) (q : QU m (H.set l (.list ((ns.set k.toNat i).map vb)))) :
    JU a A₀ L m (setItem u y v) H QU := by
  refine u_setItem hx hy h h0 (by simpa using hk) (by simpa using hs) ?_
  rw [hv, List.map_set] at *; exact q
theorem u_setBN {KF : Params → Frag} {a : Amb KF} {l : Addr} {ns : List Bool} {k : Nat} {i : Bool} {u y v : Value} {QU : Loc → AHeap → Prop} (hx : er u = .ref l) (hy : er y = vi (k : Int)) (hv : er v = vb i) (h : H l = some (.list (ns.map vb))) (hk : k < ns.length) (hs : ns.length < 2 ^ 60) (q : QU m (H.set l (.list ((ns.set k i).map vb)))) :
    JU a A₀ L m (setItem u y v) H QU := u_setB hx hy hv h (Int.natCast_nonneg _) (Int.ofNat_lt.mpr hk) hs q
theorem app_ri {KF : Params → Frag} {a : Amb KF} {env : Env} {e : Expr} {Kp : Addr} {vs : List Int} (hK : H Kp = some (.list (vs.map vi))) (hq : JE a A₀ L m (eval e env) H (fun v H₂ => ∃ i : Int, v = vi i ∧ H₂ = H ∧ vs.length ≤ 10000 ∧ Q .none (H.set Kp (.list ((vs ++ [i]).map vi))))) :
    AppOk a A₀ L m e env (.ref Kp) H Q :=
  ⟨Kp, _, rfl, hK, hq.mono fun v H₂ ⟨i, hv, e, hz, q⟩ => ⟨vs.map vi, by rw [e]; exact hK, by rw [List.length_map]; (first | lia | omega), by
    rw [List.map_append] at q
    rw [hv, e]; exact q⟩⟩
/-- the state of the walk -/
structure AW (M : (Nat → Bool) → Prop) (x : Addr) (A : Ad) (D : Dat) (H : AHeap) (Se Rs : Addr) (S : List Bool) (rest : List Int) (O : List Nat) (pl : Nat) (H₁ : AHeap) : Prop where
  sol : ∃ acts' step', SolAt H₁ x A { D with acts := acts', step := step' } ∧ acts'.length = D.acts.length
  se : H₁ Se = some (.list (S.map vb))
  rs : H₁ Rs = some (.list (rest.map vi))
  ext : ExtX (fun b => b = Se ∨ b = Rs) A H A H₁
  av : AV M D S rest O pl
theorem AW.rl {A : Ad} {H H₁ : AHeap} {Se Rs : Addr} {S : List Bool} {rest : List Int} {O : List Nat} {pl : Nat} (W : AW M x A D H Se Rs S rest O pl H₁) : rest.length ≤ D.n ∧ O.length ≤ D.trail.length :=
  ⟨lit_len (fun l hl => (W.av.rst l hl).1) W.av.rnd, row_len W.av.ond (fun i hi => by have := ((W.av.om i).mp hi).1; have := W.av.pll; (first | lia | omega))⟩
/-- the names of the analysis -/
structure ALoc (x Se Rs : Addr) (oc j num : Nat) (sk : Int) (m : Loc) : Prop where
  self : m (Str.ofString "self") = some (.ref x)
  seen : m (Str.ofString "seen") = some (.ref Se)
  rest : m (Str.ofString "rest") = some (.ref Rs)
  oc : m (Str.ofString "open_count") = some (vn oc)
  pl : m (Str.ofString "place") = some (vn j)
  num : m (Str.ofString "number") = some (vn num)
  sk : m (Str.ofString "skipped") = some (vi sk)
structure AI1 (M : (Nat → Bool) → Prop) (x : Addr) (A : Ad) (D : Dat) (H₃ : AHeap) (Se Rs : Addr) (j : Nat) (m₁ : Loc) (H₁ : AHeap) (S : List Bool) (rest : List Int) (O : List Nat) (num : Nat) (c : List Int) (sk : Int) : Prop where
  loc : ALoc x Se Rs O.length j num sk m₁
  w : AW M x A D H₃ Se Rs S rest O j H₁
  hk : D.cls[num]? = some c
  ng : ∀ l ∈ c, l ≠ sk → -l ∈ D.trail.take j
  res : sk ∈ c → Res M D rest O (fun σ => tl σ (-sk))
  live : O ≠ [] ∨ ∃ f t, f ∈ c ∧ f ≠ sk ∧ t < j ∧ D.trail[t]? = some (-f) ∧ D.lev t = D.lims.length
def AX1 (M : (Nat → Bool) → Prop) (x : Addr) (A : Ad) (D : Dat) (H₃ : AHeap) (Se Rs : Addr) (j : Nat) (m₁ : Loc) (H₁ : AHeap) : Prop := ∃ S rest O num c sk, AI1 M x A D H₃ Se Rs j m₁ H₁ S rest O num c sk
structure AI2 (M : (Nat → Bool) → Prop) (x : Addr) (A : Ad) (D : Dat) (H₃ : AHeap) (Se Rs : Addr) (pl num : Nat) (c : List Int) (sk : Int) (rest : List Int) (O : List Nat) (i : Nat) (m₂ : Loc) (H₅ : AHeap) (S' : List Bool) (rest' : List Int) (O' : List Nat) : Prop where
  loc : ALoc x Se Rs O'.length pl num sk m₂
  w : AW M x A D H₃ Se Rs S' rest' O' pl H₅
  sc : Scan D S' sk (c.take i)
  s1 : ∀ l ∈ rest, l ∈ rest'
  s2 : ∀ t ∈ O, t ∈ O'
def AX2 (M : (Nat → Bool) → Prop) (x : Addr) (A : Ad) (D : Dat) (H₃ : AHeap) (Se Rs : Addr) (pl num : Nat) (c : List Int) (sk : Int) (rest : List Int) (O : List Nat) (i : Nat) (m₂ : Loc) (H₅ : AHeap) : Prop := ∃ S' rest' O', AI2 M x A D H₃ Se Rs pl num c sk rest O i m₂ H₅ S' rest' O'
structure AI3 (x : Addr) (D : Dat) (Se Rs : Addr) (pl num oc : Nat) (sk : Int) (S' : List Bool) (H₅ : AHeap) (j : Nat) (m₃ : Loc) (H₆ : AHeap) : Prop where
  lt : j < pl
  eq : H₆ = H₅
  loc : ALoc x Se Rs oc j num sk m₃
  no : ∀ i l', j < i → i < pl → D.trail[i]? = some l' → S'.getD l'.natAbs false = false
theorem analyze_c {k h₀ : Nat} {c : List Int} {f : Int} (h : SolAt H x A D) (C : Core M D) (z : Sz D) (hk : D.cls[k]? = some c) (hneg : ∀ l ∈ c, -l ∈ D.trail) (hf : f ∈ c) (ht : D.trail[h₀]? = some (-f)) (hlh : ∀ p ∈ D.lims, p ≤ h₀) (h0 : 0 < D.lims.length) (hR : Rm A₀ 4)
    (q : ∀ H' T C' fst rest back acts' step', SolAt H' x A { D with acts := acts', step := step' } → acts'.length = D.acts.length → Ext A H A H' → H' T = some (.tuple [.ref C', vn back]) → H' C' = some (.list ((fst :: rest).map vi)) → ¬ Own A C' → H C' = none → LC M D fst rest back → Q (.ref T) H') : CA a A₀ L m (.ref 145) [.ref x, vn k] H Q := by
  refine c_def2 (p := Str.ofString "self") (q := Str.ofString "conflict") (at_analyze _) (cd_analyze _) hR (fun _ _ => by with_unfolding_all rfl) (by decide) (by decide) (fun L' A' R' => ?_)
  have zn := z.n
  have zt := z.trail
  have zl := z.levs
  have zr := z.reas
  have zc := z.cls
  have zlim := z.lims
  walk_at "xs"
  refine ⟨by simp, fun S₀ hS₀ => ?_⟩
  have h₁ := h.beside (c := .list [vb false]) hS₀
  have e₁ : Ext A H A (H.set S₀ (.list [vb false])) := Ext.fresh hS₀
  have hS1 := AHeap.set_same H S₀ (.list [vb false])
  generalize H.set S₀ (.list [vb false]) = H₁ at *
  walk_at "xs"
  refine o_mul_list1 hS1 (by (first | lia | omega)) (by (first | lia | omega)) fun Se hSe => ?_
  rw [show ((D.n : Int) + 1).toNat = D.n + 1 by (first | lia | omega)]
  have h₂ := h₁.beside (c := .list (List.replicate (D.n + 1) (vb false))) hSe
  have so := h₁.fresh_own hSe
  have e₂ := e₁.trans (Ext.fresh (A := A) (c := .list (List.replicate (D.n + 1) (vb false))) hSe)
  have hSH : H Se = none := by
    rcases e : H Se with _ | c
    · rfl
    · have := (e₁ Se c e so).1; rw [hSe] at this; cases this
  have hS2 := AHeap.set_same H₁ Se (.list (List.replicate (D.n + 1) (vb false)))
  generalize H₁.set Se (.list (List.replicate (D.n + 1) (vb false))) = H₂ at *
  walk_at "xs"
  refine ⟨by simp, fun Rs hRs => ?_⟩
  have h₃ := h₂.beside (c := .list []) hRs
  have ro := h₂.fresh_own hRs
  have e₃ := e₂.trans (Ext.fresh (A := A) (c := .list []) hRs)
  have hRH : H Rs = none := by
    rcases e : H Rs with _ | c
    · rfl
    · have := (e₂ Rs c e ro).1; rw [hRs] at this; cases this
  have hSR : Se ≠ Rs := fun e => by rw [e, hRs] at hS2; cases hS2
  have hS3 : (H₂.set Rs (.list [])) Se = some (.list ((List.replicate (D.n + 1) false).map vb)) := by rw [AHeap.set_ne _ _ hSR, List.map_replicate]; exact hS2
  have hR3 := AHeap.set_same H₂ Rs (.list (([] : List Int).map vi))
  generalize hH₃ : H₂.set Rs (.list []) = H₃ at *
  rw [show H₂.set Rs (.list (([] : List Int).map vi)) = H₃ from hH₃] at hR3
  walk_at "xs"
  refine c_len_list h₃.trail (by rw [List.length_map]; (first | lia | omega)) ?_
  rw [List.length_map]
  walk_at "xs"
  have hX : ∀ b, (b = Se ∨ b = Rs) → H b = none := fun b hb => by rcases hb with rfl | rfl <;> assumption
  have hlev0 : D.lev h₀ = D.lims.length := levI_full hlh
  refine s_while (AX1 M x A D H₃ Se Rs) D.trail.length
    ⟨List.replicate (D.n + 1) false, [], [], k, c, 0, ⟨by walk_at "loc", by walk_at "loc", by walk_at "loc", by (show _ = some (vi 0)); walk_at "loc", by walk_at "loc", by walk_at "loc", by walk_at "loc"⟩, ⟨⟨D.acts, D.step, h₃, rfl⟩, hS3, hR3, fun b c hb ho _ => ⟨hb, ho⟩, AV.start C⟩, hk, fun l hl _ => by rw [List.take_length]; exact hneg l hl, fun h => absurd rfl (C.clit c (List.mem_of_getElem? hk) 0 h).1, .inr ⟨f, h₀, hf, (C.clit c (List.mem_of_getElem? hk) f hf).1, get?_lt ht, ht, hlev0⟩⟩ ?_
  rintro pl m₁ H₄ ⟨S, rest, O, num, c', sk, ⟨hm1, hm2, hm3, hm4, hm5, hm6, hm7⟩, W, hkc, hng, hres, hlive⟩
  obtain ⟨acts', step', h₄, hac⟩ := W.sol
  have hnl := get?_lt hkc
  have hcm := List.mem_of_getElem? hkc
  walk_at "xs"
  refine s_for (fun _ => rfl) (fun _ _ => rfl) R'.handled ?_
  walk_at "xs"
  refine r_cls (fun _ _ => ⟨_, rfl⟩) h₄ (by (first | lia | omega)) (by (try dsimp only); (first | lia | omega)) (by (try dsimp only); (first | lia | omega)) fun lc hlc => ?_
  rw [Int.toNat_natCast] at hlc
  have hlc4 : H₄ lc = some (.list (c'.map vi)) := h₄.cl num lc _ hlc hkc
  refine ⟨_, _, AX2 M x A D H₃ Se Rs pl num c' sk rest O, .list hlc4,
    ⟨S, rest, O, ⟨by walk_at "loc", by walk_at "loc", by walk_at "loc", by walk_at "loc", by walk_at "loc", by walk_at "loc", by walk_at "loc"⟩, W, fun l hl => (by cases hl), fun _ h => h, fun _ h => h⟩, ?_, ?_⟩
  · rintro i v m₂ H₅ hv ⟨S', rest', O', ⟨hn1, hn2, hn3, hn4, hn5, hn6, hn7⟩, W', hsc, hsub1, hsub2⟩ hK v' hv'
    obtain ⟨l, hl, rfl⟩ : ∃ l, c'[i]? = some l ∧ v = vi l := by
      rw [List.getElem?_map] at hv; obtain ⟨k, h1, h2⟩ := Option.map_eq_some_iff.mp hv; exact ⟨k, h1, h2.symm⟩
    obtain ⟨acts₅, step₅, h₅, hac₅⟩ := W'.sol
    have hlm := List.mem_of_getElem? hl
    have hll := C.clit c' hcm l hlm
    have V := W'.av
    have hvl : l.natAbs < S'.length := by rw [V.len]; have := hll.2; (first | lia | omega)
    have hSl := V.len
    have hrl := W'.rl
    have hK' : ∀ {H' acts' step'}, SolAt H' x A { D with acts := acts', step := step' } → H' lc = some (.list (c'.map vi)) := fun h => h.cl num lc _ hlc hkc
    have fin : ∀ m' : Loc, ALoc x Se Rs O'.length pl num sk m' → (l ≠ sk → ∀ t, D.trail[t]? = some (-l) → 0 < D.lev t → S'.getD l.natAbs false = true) →
      AX2 M x A D H₃ Se Rs pl num c' sk rest O (i + 1) m' H₅ ∧ H₅ lc = some (.list (c'.map vi)) := fun m' al hs => ⟨⟨S', rest', O', al, W', hsc.ext hl hs, hsub1, hsub2⟩, hK' h₅⟩
    walk_at "xs"
    refine ite_n (fun hne => ?_) (fun hne => ?_)
    · walk_at "xs"
      refine o_itemN false (fun _ _ => ⟨_, rfl⟩) W'.se (by (first | lia | omega)) (by (first | lia | omega)) ?_
      walk_at "xs"
      cases hs : S'.getD l.natAbs false with
      | true =>
        refine ite_b (fun hn => by cases hn) (fun _ => ?_)
        walk_at "xs"
        exact fin _ ⟨by walk_at "loc", by walk_at "loc", by walk_at "loc", by walk_at "loc", by walk_at "loc", by walk_at "loc", by walk_at "loc"⟩ (fun _ t _ _ => hs)
      | false =>
        refine ite_b (fun _ => ?_) (fun hn => by cases hn)
        have hneg' := hng l hlm hne
        obtain ⟨t, ht'⟩ := List.getElem?_of_mem hneg'
        have htp : t < pl := by have := get?_lt ht'; rw [List.length_take] at this; (first | lia | omega)
        rw [List.getElem?_take_of_lt htp] at ht'
        have hlv := C.levs t _ ht'
        rw [Int.natAbs_neg] at hlv
        walk_at "xs"
        refine r_levsN (fun _ _ => ⟨_, rfl⟩) h₅ (by (try dsimp only); have := hll.2; (first | lia | omega)) (by (try dsimp only); (first | lia | omega)) ?_
        walk_at "xs"
        refine ite_d (fun hgt => ?_) (fun hgt => ?_)
        · have hgt' : 0 < D.lev t := by (try dsimp only at hgt); (first | lia | omega)
          walk_at "xs"
          intro v' x' y' hv hx hy
          refine u_setBN hx hy hv W'.se (by (first | lia | omega)) (by (first | lia | omega)) ?_
          have h₆ := h₅.aside (c := .list ((S'.set l.natAbs true).map vb)) W'.se so
          have x₆ : ExtX (fun b => b = Se ∨ b = Rs) A H₃ A (H₅.set Se (.list ((S'.set l.natAbs true).map vb))) := W'.ext.trans (ExtX.setX (.inl rfl))
          have s₆ := AHeap.set_same H₅ Se (.list ((S'.set l.natAbs true).map vb))
          have r₆ : (H₅.set Se (.list ((S'.set l.natAbs true).map vb))) Rs = some (.list (rest'.map vi)) := by rw [AHeap.set_ne _ _ (Ne.symm hSR)]; exact W'.rs
          generalize H₅.set Se (.list ((S'.set l.natAbs true).map vb)) = H₆ at *
          walk_at "xs"
          refine CA.oc (bump_c (v := l.natAbs) h₆ { z with acts := by rw [hac₅]; exact z.acts } hll.2 (R'.le (by (first | lia | omega))) fun H₇ acts₇ step₇ h₇ hac₇ e₇ => ?_)
          have x₇ := x₆.trans e₇.toX
          have s₇ := (e₇ Se _ s₆ so).1
          have r₇ := (e₇ Rs _ r₆ ro).1
          walk_at "xs"
          refine r_levsN (fun _ _ => ⟨_, rfl⟩) h₇ (by (try dsimp only); have := hll.2; (first | lia | omega)) (by (try dsimp only); (first | lia | omega)) ?_
          walk_at "xs"
          refine CA.oc (level_c h₇ (by (try dsimp only); (first | lia | omega)) (R'.le (by (first | lia | omega))) ?_)
          walk_at "xs"
          refine ite_e (fun he => ?_) (fun he => ?_)
          · have V' := V.markTop C hll ht' htp (by (try dsimp only at he); (first | lia | omega)) h0 hs
            walk_at "xs"
            refine ⟨⟨_, _, _, ⟨by walk_at "loc", by walk_at "loc", by walk_at "loc", ?_, by walk_at "loc", by walk_at "loc", by walk_at "loc"⟩, ⟨⟨acts₇, step₇, h₇, by (try dsimp only at hac₇); (first | lia | omega)⟩, s₇, r₇, x₇, V'⟩, (hsc.set hvl).ext hl (fun _ _ _ _ => (getD_set_true hvl).mpr (.inl rfl)), hsub1, fun t h => .tail _ (hsub2 t h)⟩, hK' h₇⟩
            rw [show vn (t :: O').length = vi ((O'.length : Int) + 1) by show Value.int _ _ = Value.int _ _; congr 1]
            walk_at "loc"
          · have V' := V.markRest C hll ht' hgt' (by have := levI_le D.lims t; unfold Dat.lev at *; (try dsimp only at he); (first | lia | omega)) hs
            walk_at "xs"
            refine app_ri r₇ ?_
            walk_at "xs"
            refine ⟨_, rfl, rfl, by (first | lia | omega), ?_⟩
            have h₈ := h₇.aside (c := .list ((rest' ++ [l]).map vi)) r₇ ro
            have x₈ : ExtX (fun b => b = Se ∨ b = Rs) A H₃ A (H₇.set Rs (.list ((rest' ++ [l]).map vi))) := x₇.trans (ExtX.setX (.inr rfl))
            have r₈ := AHeap.set_same H₇ Rs (.list ((rest' ++ [l]).map vi))
            have s₈ : (H₇.set Rs (.list ((rest' ++ [l]).map vi))) Se = some (.list ((S'.set l.natAbs true).map vb)) := by rw [AHeap.set_ne _ _ hSR]; exact s₇
            generalize H₇.set Rs (.list ((rest' ++ [l]).map vi)) = H₈ at *
            walk_at "xs"
            exact ⟨⟨_, _, O', ⟨by walk_at "loc", by walk_at "loc", by walk_at "loc", by walk_at "loc", by walk_at "loc", by walk_at "loc", by walk_at "loc"⟩, ⟨⟨acts₇, step₇, h₈, by (try dsimp only at hac₇); (first | lia | omega)⟩, s₈, r₈, x₈, V'⟩, (hsc.set hvl).ext hl (fun _ _ _ _ => (getD_set_true hvl).mpr (.inl rfl)), fun l' h => List.mem_append_left _ (hsub1 l' h), hsub2⟩, hK' h₈⟩
        · walk_at "xs"
          refine fin _ ⟨by walk_at "loc", by walk_at "loc", by walk_at "loc", by walk_at "loc", by walk_at "loc", by walk_at "loc", by walk_at "loc"⟩ (fun _ t₂ ht₂ h0₂ => ?_)
          have := C.idx ht₂ ht' rfl
          subst this
          (try dsimp only at hgt); (first | lia | omega)
    · walk_at "xs"
      exact fin _ ⟨by walk_at "loc", by walk_at "loc", by walk_at "loc", by walk_at "loc", by walk_at "loc", by walk_at "loc", by walk_at "loc"⟩ (fun h => absurd hne h)
  · rintro m₂ H₅ ⟨S', rest', O', ⟨hn1, hn2, hn3, hn4, hn5, hn6, hn7⟩, W', hsc, hsub1, hsub2⟩
    rw [List.length_map, List.take_length] at hsc
    obtain ⟨acts₅, step₅, h₅, hac₅⟩ := W'.sol
    have V := W'.av
    have hrl := W'.rl
    have hSl := V.len
    have hpl := V.pll
    have hO : O' ≠ [] := by
      rcases hlive with h | ⟨f, t, h1, h2, h3, h4, h5⟩
      · obtain ⟨i, hi⟩ := List.exists_mem_of_ne_nil O h
        exact fun e => by have := hsub2 i hi; rw [e] at this; cases this
      · have hm := hsc f h1 h2 t h4 (by (first | lia | omega))
        exact List.ne_nil_of_mem ((V.om t).mpr ⟨h3, h5, -f, h4, by rw [Int.natAbs_neg]; exact hm⟩)
    have hfull := V.resolved C hcm hng hsc (fun h => (hres h).mono hsub1 hsub2)
    obtain ⟨i₀, hi₀⟩ := List.exists_mem_of_ne_nil O' hO
    obtain ⟨g1, g2, l₀, g3, g4⟩ := (V.om i₀).mp hi₀
    walk_at "xs"
    refine s_while (AI3 x D Se Rs pl num O'.length sk S' H₅) (pl - 1)
      ⟨by (first | lia | omega), rfl, ⟨by walk_at "loc", by walk_at "loc", by walk_at "loc", by walk_at "loc", ?_, by walk_at "loc", by walk_at "loc"⟩, fun i l' h1 h2 => by (first | lia | omega)⟩ ?_
    · rw [show vn (pl - 1) = vi ((pl : Int) - 1) by show Value.int _ _ = Value.int _ _; congr 1; (first | lia | omega)]
      walk_at "loc"
    · rintro p m₃ H₆ ⟨hp, rfl, ⟨hp1, hp2, hp3, hp4, hp5, hp6, hp7⟩, hno⟩
      have hpt : p < D.trail.length := by (first | lia | omega)
      have hpl : D.trail[p]? = some (D.trail.getD p 0) := getD_get hpt
      have hpn : (D.trail.getD p 0).natAbs ≤ D.n := (C.lit _ (List.mem_of_getElem? hpl)).2
      walk_at "xs"
      refine r_trailN (fun _ _ => ⟨_, rfl⟩) h₅ (by (try dsimp only); (first | lia | omega)) (by (try dsimp only); (first | lia | omega)) ?_
      (try dsimp only)
      generalize D.trail.getD p 0 = lp at *
      walk_at "xs"
      refine o_itemN false (fun _ _ => ⟨_, rfl⟩) W'.se (by (first | lia | omega)) (by (first | lia | omega)) ?_
      walk_at "xs"
      cases hs : S'.getD lp.natAbs false with
      | false =>
        refine ite_b (fun _ => ?_) (fun hn => by cases hn)
        have hip : i₀ < p := by
          by_cases h1 : i₀ < p
          · exact h1
          · exfalso
            by_cases h2 : i₀ = p
            · subst h2; rw [hpl] at g3; cases g3; rw [hs] at g4; cases g4
            · rw [hno i₀ l₀ (by (first | lia | omega)) g1 g3] at g4; cases g4
        walk_at "xs"
        refine ⟨p - 1, by (first | lia | omega), by (first | lia | omega), rfl, ⟨by walk_at "loc", by walk_at "loc", by walk_at "loc", by walk_at "loc", ?_, by walk_at "loc", by walk_at "loc"⟩, fun i l' h1 h2 h3 => ?_⟩
        · rw [show vn (p - 1) = vi ((p : Int) - 1) by show Value.int _ _ = Value.int _ _; congr 1; (first | lia | omega)]
          walk_at "loc"
        · by_cases e : i = p
          · subst e; rw [hpl] at h3; cases h3; exact hs
          · exact hno i l' (by (first | lia | omega)) h2 h3
      | true =>
        refine ite_b (fun hn => by cases hn) (fun _ => ?_)
        obtain ⟨hpO, hplev, V'⟩ := V.next hp hpl hs hno hO
        have hlen : (O'.erase p).length = O'.length - 1 := List.length_erase_of_mem hpO
        have hOl : 0 < O'.length := List.length_pos_iff.mpr hO
        walk_at "xs"
        refine r_trailN (fun _ _ => ⟨_, rfl⟩) h₅ (by (try dsimp only); (first | lia | omega)) (by (try dsimp only); (first | lia | omega)) ?_
        (try dsimp only)
        rw [get?_getD hpl]
        walk_at "xs"
        refine ite_e (fun he => ?_) (fun he => ?_)
        · walk_at "xs"
          refine CA.oc (ordered_c h₅ { z with acts := by rw [hac₅]; exact z.acts } W'.rs ro (fun l hl => (V.rst l hl).1.2) (by (first | lia | omega)) (R'.le (by (first | lia | omega))) fun H₇ T C' rest₂ h₇ e₇ hT hC hco hCf hperm hmax => ?_)
          walk_at "xs"
          have hO1 : ∀ i ∈ O', i = p := fun i hi => by
            have h1 : O'.length = 1 := by (first | lia | omega)
            obtain ⟨y, hy⟩ := List.length_eq_one_iff.mp h1
            rw [hy] at hi hpO
            rw [List.mem_singleton.mp hi, List.mem_singleton.mp hpO]
          have hlev : ∃ back : Nat, (back : Int) = if rest' = [] then 0 else D.levs.getD (rest₂.getD 0 0).natAbs 0 := by
            by_cases hr : rest' = []
            · exact ⟨0, by rw [if_pos hr]; rfl⟩
            · have hne : rest₂ ≠ [] := fun e => by subst e; exact hr hperm.symm.eq_nil
              have hm := hperm.mem_iff.mp (getD_mem (c := rest₂) (i := 0) (List.length_pos_iff.mpr hne))
              obtain ⟨_, _, i, hi, _⟩ := V.rst _ hm
              have := C.levs i _ hi
              rw [Int.natAbs_neg] at this
              exact ⟨D.lev i, by rw [if_neg hr, this]⟩
          obtain ⟨back, hback⟩ := hlev
          have lc := V.learn C h0 hpl hplev hO1 hfull hperm hmax hback
          (try dsimp only at hT)
          rw [← hback] at hT
          have x₇ : ExtX (fun b => b = Se ∨ b = Rs) A H₃ A H₇ := W'.ext.trans (fun b c hb ho hx => e₇ b c hb ho (fun e => hx (.inr e)))
          have cf₃ : H₃ C' = none := W'.ext.back h₅ (fun b hb => by
            rcases hb with rfl | rfl
            · exact ⟨_, W'.se⟩
            · exact ⟨_, W'.rs⟩) hCf
          have cf : H C' = none := (e₃.toX (X := fun _ => False)).back h₃ (fun _ hb => hb.elim) cf₃
          exact q H₇ T C' (-lp) rest₂ back acts₅ step₅ h₇ hac₅ (e₃.ofX x₇ hX) hT hC hco cf lc
        · have hOe : O'.erase p ≠ [] := fun e => by rw [e] at hlen; simp at hlen; (first | lia | omega)
          obtain ⟨k', c₂, hr1, hr2, hr3⟩ := V.reason C hpl hplev V' hOe
          walk_at "xs"
          refine r_reasN (fun _ _ => ⟨_, rfl⟩) h₅ (by (try dsimp only); (first | lia | omega)) (by (try dsimp only); (first | lia | omega)) ?_
          (try dsimp only)
          rw [hr1]
          walk_at "xs"
          refine ⟨p, hp, S', rest', O'.erase p, k', c₂, lp, ⟨by walk_at "loc", by walk_at "loc", by walk_at "loc", ?_, by walk_at "loc", by walk_at "loc", by walk_at "loc"⟩, ⟨W'.sol, W'.se, W'.rs, W'.ext, V'⟩, hr2, hr3, fun _ σ hσ => ?_, .inl hOe⟩
          · rw [show vn (O'.erase p).length = vi ((O'.length : Int) - 1) by show Value.int _ _ = Value.int _ _; congr 1; (first | lia | omega)]
            walk_at "loc"
          · rcases hfull σ hσ with h | ⟨i, hi, l', h1, h2⟩ | h
            · exact .inl h
            · by_cases e : i = p
              · subst e; rw [hpl] at h1; cases h1
                exact .inr (.inr h2)
              · exact .inr (.inl ⟨i, (List.mem_erase_of_ne e).mpr hi, l', h1, h2⟩)
            · exact h.elim
end
end
-- Pure5
section
def plain : List Int → List Int → Option (List Int)
  | kept, [] => some kept
  | kept, l :: r => if kept.any (· == -l) = true then none else if kept.any (· == l) = true then plain kept r else plain (kept ++ [l]) r
theorem any_eq {k : List Int} {l : Int} : k.any (· == l) = true ↔ l ∈ k := by
  rw [List.any_eq_true]
  constructor
  · rintro ⟨x, h, e⟩; rw [← eq_of_beq e]; exact h
  · intro h; exact ⟨l, h, by simp⟩
theorem plain_none : ∀ {c kept : List Int}, (∀ l ∈ c, l ≠ 0) → plain kept c = none → ∀ σ, ∃ l ∈ kept ++ c, tl σ l
  | [], kept, _, h, σ => by simp [plain] at h
  | l :: r, kept, hz, h, σ => by
    rw [plain] at h
    split at h
    · rename_i e
      rw [any_eq] at e
      by_cases t : tl σ l
      · exact ⟨l, by simp, t⟩
      · exact ⟨-l, by simp [e], (tl_neg (hz l (by simp))).mpr t⟩
    · split at h
      · obtain ⟨x, hx, ht⟩ := plain_none (fun l hl => hz l (by simp [hl])) h σ
        refine ⟨x, ?_, ht⟩
        simp at hx ⊢; rcases hx with h | h <;> simp [h]
      · obtain ⟨x, hx, ht⟩ := plain_none (fun l hl => hz l (by simp [hl])) h σ
        refine ⟨x, ?_, ht⟩
        simp at hx ⊢; rcases hx with h | h | h <;> simp [h]
theorem plain_some : ∀ {c kept k : List Int}, (kept.map Int.natAbs).Nodup → plain kept c = some k → (k.map Int.natAbs).Nodup ∧ (∀ l, l ∈ k ↔ l ∈ kept ∨ l ∈ c)
  | [], kept, k, hn, h => by
    rw [plain] at h; cases h
    exact ⟨hn, fun l => by simp⟩
  | l :: r, kept, k, hn, h => by
    rw [plain] at h
    split at h
    · cases h
    · rename_i e1
      rw [any_eq] at e1
      split at h
      · rename_i e2
        rw [any_eq] at e2
        obtain ⟨h1, h2⟩ := plain_some hn h
        refine ⟨h1, fun x => ?_⟩
        rw [h2 x, List.mem_cons]
        constructor
        · rintro (h | h) <;> simp [h]
        · rintro (h | rfl | h)
          · simp [h]
          · simp [e2]
          · simp [h]
      · rename_i e2
        rw [any_eq] at e2
        obtain ⟨h1, h2⟩ := plain_some (kept := kept ++ [l]) (by
          rw [List.map_append]
          refine nodup_snoc hn (fun h => ?_)
          obtain ⟨x, hx, e⟩ := List.mem_map.mp h
          rcases natAbs_eq e with e | e
          · exact e2 (e ▸ hx)
          · exact e1 (e ▸ hx)) h
        refine ⟨h1, fun x => ?_⟩
        rw [h2 x]; simp [or_assoc]
theorem plain_sat {c k : List Int} (h : plain [] c = some k) (σ : Nat → Bool) : Sat σ k ↔ Sat σ c := by
  obtain ⟨_, h2⟩ := plain_some (by simp) h
  simp [Sat, h2]
/-- the solver between two deeds -/
structure Base (M : (Nat → Bool) → Prop) (D : Dat) (N : Nat) : Prop where
  n1 : 1 ≤ D.n
  n5 : D.n ≤ 5
  found : D.found.length = D.n + 1
  lrn : ∀ c ∈ D.learned, ∀ σ, M σ → Sat σ c
  lit : ∀ c ∈ D.learned, ∀ l ∈ c, Lit D.n l
  len : ∀ c ∈ D.learned, c.length ≤ 5
  nl : D.learned.length ≤ N
  st : (D.refuted = true ∧ ∀ σ, ¬ M σ) ∨ (D.refuted = false ∧ Good M D ∧ D.lims = [] ∧ D.cls.length ≤ N ∧ D.acts.length = D.n + 1)
theorem Base.bd {M : (Nat → Bool) → Prop} {D : Dat} {N : Nat} (B : Base M D N) (hN : N ≤ 1900) (hl : D.lims = []) (hc : D.cls.length ≤ N) (ha : D.acts.length = D.n + 1) : Bd D :=
  ⟨by rw [hl]; simp, by (first | lia | omega), by have := B.nl; (first | lia | omega), B.found, ha⟩
theorem Good.models {M M' : (Nat → Bool) → Prop} {D : Dat} (G : Good M D) (hM : ∀ σ, M' σ → M σ) (hv : ∀ σ, M σ → (∀ i l, D.trail[i]? = some l → D.lev i = 0 → tl σ l) → M' σ) : Good M' D :=
  ⟨G.core.models hM hv, G.wl, G.wat, G.ws, G.lh, G.ht⟩
theorem lev_nil {D : Dat} (h : D.lims = []) (i : Nat) : D.lev i = 0 := by unfold Dat.lev levI; rw [h]; rfl
theorem Good.level0 {M : (Nat → Bool) → Prop} {D : Dat} (G : Good M D) (h : D.lims = []) {σ : Nat → Bool} (hσ : M σ) : ∀ l ∈ D.trail, tl σ l := by
  intro l hl
  obtain ⟨i, hi⟩ := List.getElem?_of_mem hl
  exact G.core.follow (m := 0) hσ (fun i l _ hm => by rw [h] at hm; cases hm) i l hi (by rw [lev_nil h]; exact Nat.le_refl _)
theorem Core.assign0 {M M' : (Nat → Bool) → Prop} {D : Dat} (C : Core M D) {l : Int} (hl : Lit D.n l) (h1 : l ∉ D.trail) (h2 : -l ∉ D.trail) (h0 : D.lims = []) (hM : ∀ σ, M' σ → M σ) (ht : ∀ σ, M' σ → tl σ l) (hv : ∀ σ, M σ → tl σ l → M' σ) : Core M' (D.assign l (-1)) := by
  have hne : ∀ {i : Nat} {l' : Int}, D.trail[i]? = some l' → l.natAbs ≠ l'.natAbs := fun h e => by
    have h := List.mem_of_getElem? h
    rcases natAbs_eq e with e | e
    · exact h1 (e ▸ h)
    · exact h2 (by rw [e, Int.neg_neg]; exact h)
  have C1 := (C.lim (by rw [h0]; simp)).assign (r := -1) hl h1 h2 (by simp [h0]) (.inl ⟨rfl, .inl (by simp)⟩)
  have hz : ∀ i, (D.assign l (-1)).lev i = 0 := lev_nil h0
  refine { n1 := C.n1, n5 := C.n5, lvals := C1.lvals, llevs := by simp [Dat.assign, C.llevs], lreas := C1.lreas, lphas := C.lphas, lit := C1.lit, nd := C1.nd, vals := C1.vals, phas := C.phas, sorted := C.sorted, levs := ?_, reas := ?_, clen := C.clen, clit := C.clit, cnd := C.cnd, imp := fun σ h => C.imp σ (hM σ h), conv := fun σ a b => hv σ (C.conv σ a fun i l' hi h0 => b i l' (snoc_get? hi) (hz i)) (b D.trail.length l snoc_last (hz _)) }
  · intro i l' h
    rw [hz]
    simp only [Dat.assign] at h ⊢
    rcases get?_snoc h with h | ⟨rfl, rfl⟩
    · rw [getD_set_ne (hne h), C.levs i l' h, lev_nil h0]
    · rw [getD_set_self (by rw [C.llevs]; have := hl.2; (first | lia | omega)), h0]; rfl
  · intro i l' h
    simp only [Dat.assign] at h ⊢
    rcases get?_snoc h with h | ⟨rfl, rfl⟩
    · rw [getD_set_ne (hne h)]
      have := C.reas i l' h
      unfold Reason at this ⊢
      rw [take_snoc (Nat.le_of_lt (get?_lt h))]
      rcases this with ⟨e, h2 | ⟨h2, h3⟩⟩ | h2
      · rw [h0] at h2; cases h2
      · exact .inl ⟨e, .inr ⟨h2, fun σ hσ => h3 σ (hM σ hσ)⟩⟩
      · exact .inr h2
    · rw [getD_set_self (by rw [C.lreas]; have := hl.2; (first | lia | omega))]
      exact .inl ⟨rfl, .inr ⟨by rw [h0]; rfl, ht⟩⟩
abbrev With (M : (Nat → Bool) → Prop) (c : List Int) : (Nat → Bool) → Prop := fun σ => M σ ∧ Sat σ c
/-- nothing is to be done -/
theorem Base.same {M : (Nat → Bool) → Prop} {D : Dat} {N : Nat} {c : List Int} (B : Base M D N) (h : ∀ σ, M σ → Sat σ c) : Base (With M c) D (N + 1) where
  n1 := B.n1
  n5 := B.n5
  found := B.found
  lrn := fun c' hc σ hσ => B.lrn c' hc σ hσ.1
  lit := B.lit
  len := B.len
  nl := by have := B.nl; (first | lia | omega)
  st := by
    rcases B.st with ⟨h1, h2⟩ | ⟨h1, h2, h3, h4, h5⟩
    · exact .inl ⟨h1, fun σ hσ => h2 σ hσ.1⟩
    · exact .inr ⟨h1, h2.models (fun σ hσ => hσ.1) (fun σ hσ _ => ⟨hσ, h σ hσ⟩), h3, by (first | lia | omega), h5⟩
theorem Base.dead {M : (Nat → Bool) → Prop} {D : Dat} {N : Nat} {c : List Int} (B : Base M D N) (h : D.refuted = true) : Base (With M c) D (N + 1) := B.same fun σ hσ => by
  rcases B.st with ⟨_, h2⟩ | ⟨h1, _⟩
  · exact absurd hσ (h2 σ)
  · rw [h] at h1; cases h1
/-- what the loop of add has gathered of the kept literals -/
structure Gath (D : Dat) (k rest : List Int) : Prop where
  sub : ∀ l ∈ rest, l ∈ k ∧ l ∉ D.trail ∧ -l ∉ D.trail
  out : ∀ l ∈ k, l ∉ rest → -l ∈ D.trail
  nd : (rest.map Int.natAbs).Nodup
theorem Gath.sat {M : (Nat → Bool) → Prop} {D : Dat} {k rest : List Int} (g : Gath D k rest) (G : Good M D) (h : D.lims = []) (hz : ∀ l ∈ k, l ≠ 0) {σ : Nat → Bool} (hσ : M σ) : Sat σ k ↔ Sat σ rest := by
  constructor
  · rintro ⟨l, hl, ht⟩
    by_cases hr : l ∈ rest
    · exact ⟨l, hr, ht⟩
    · exact absurd ht ((tl_neg (hz l hl)).mp (G.level0 h hσ _ (g.out l hl hr)))
  · rintro ⟨l, hl, ht⟩
    exact ⟨l, (g.sub l hl).1, ht⟩
section
variable {M : (Nat → Bool) → Prop} {D : Dat} {N : Nat} {c k rest : List Int}
theorem Base.refute (B : Base M D N) (hr : D.refuted = false) (hl : ∀ l ∈ c, Lit D.n l) (hk : plain [] c = some k) (g : Gath D k []) : Base (With M c) { D with refuted := true, learned := D.learned ++ [[]] } (N + 1) := by
  rcases B.st with ⟨h1, _⟩ | ⟨h1, G, h3, h4, h5⟩
  · rw [hr] at h1; cases h1
  have hz : ∀ l ∈ k, l ≠ 0 := fun l hl' => by
    have := ((plain_some (by simp) hk).2 l).mp hl'
    exact (hl l (by simpa using this)).1
  have no : ∀ σ, ¬ With M c σ := fun σ hσ => by
    obtain ⟨l, hl', _⟩ := (g.sat G h3 hz hσ.1).mp ((plain_sat hk σ).mpr hσ.2)
    cases hl'
  refine ⟨B.n1, B.n5, B.found, fun c' hc σ hσ => absurd hσ (no σ), fun c' hc l hl' => ?_, fun c' hc => ?_, by have := B.nl; simp; (first | lia | omega), .inl ⟨rfl, no⟩⟩
  · rcases List.mem_append.mp hc with h | h
    · exact B.lit c' h l hl'
    · rw [List.mem_singleton.mp h] at hl'; cases hl'
  · rcases List.mem_append.mp hc with h | h
    · exact B.len c' h
    · rw [List.mem_singleton.mp h]; simp
theorem Base.assign {l : Int} (B : Base M D N) (hr : D.refuted = false) (hl : ∀ l ∈ c, Lit D.n l) (hk : plain [] c = some k) (g : Gath D k [l]) : Base (With M c) (D.assign l (-1)) (N + 1) := by
  rcases B.st with ⟨h1, _⟩ | ⟨h1, G, h3, h4, h5⟩
  · rw [hr] at h1; cases h1
  have hkc := (plain_some (by simp) hk).2
  have hz : ∀ l ∈ k, l ≠ 0 := fun l hl' => by
    have := (hkc l).mp hl'
    exact (hl l (by simpa using this)).1
  obtain ⟨s1, s2, s3⟩ := g.sub l (by simp)
  -- the literal first, then fewer models
  have Ga : Good (With M c) (D.assign l (-1)) := by
    have C0 : Core (With M c) (D.assign l (-1)) := by
      have hlit : Lit D.n l := hl l (by simpa using (hkc l).mp s1)
      have hM : ∀ σ, With M c σ → tl σ l := fun σ hσ => by
        obtain ⟨x, hx, ht⟩ := (g.sat G h3 hz hσ.1).mp ((plain_sat hk σ).mpr hσ.2)
        rw [List.mem_singleton.mp hx] at ht; exact ht
      exact G.core.assign0 hlit s2 s3 h3 (fun σ hσ => hσ.1) hM (fun σ hσ ht => ⟨hσ, (plain_sat hk σ).mp ((g.sat G h3 hz hσ).mpr ⟨l, by simp, ht⟩)⟩)
    exact ⟨C0, G.wl, ⟨G.wat.nd, G.wat.lt, G.wat.ex⟩, G.ws.assign (fun _ => G.ht) l (-1), G.lh, by have := G.ht; show D.head ≤ (D.trail ++ [l]).length; simp; (first | lia | omega)⟩
  exact ⟨B.n1, B.n5, B.found, fun c' hc σ hσ => B.lrn c' hc σ hσ.1, B.lit, B.len, by have := B.nl; show D.learned.length ≤ N + 1; (first | lia | omega), .inr ⟨h1, Ga, h3, by show D.cls.length ≤ N + 1; (first | lia | omega), h5⟩⟩
theorem Base.attach (B : Base M D N) (hr : D.refuted = false) (hl : ∀ l ∈ c, Lit D.n l) (hk : plain [] c = some k) (g : Gath D k rest) (h2 : 2 ≤ rest.length) : Base (With M c) (D.attach rest) (N + 1) := by
  rcases B.st with ⟨h1, _⟩ | ⟨h1, G, h3, h4, h5⟩
  · rw [hr] at h1; cases h1
  have hkc := (plain_some (by simp) hk).2
  have hz : ∀ l ∈ k, l ≠ 0 := fun l hl' => by
    have := (hkc l).mp hl'
    exact (hl l (by simpa using this)).1
  have hlr : ∀ l ∈ rest, Lit D.n l := fun l hl' => hl l (by simpa using (hkc l).mp (g.sub l hl').1)
  have C' : Core (With M c) { D with cls := D.cls ++ [rest] } := G.core.add (fun σ hσ => hσ.1) h2 hlr g.nd (fun σ hσ => (g.sat G h3 hz hσ.1).mp ((plain_sat hk σ).mpr hσ.2)) (fun σ hσ hs _ => ⟨hσ, (plain_sat hk σ).mp ((g.sat G h3 hz hσ).mpr hs)⟩)
  have m0 : rest.getD 0 0 ∈ rest := getD_mem (by (first | lia | omega))
  have m1 : rest.getD 1 0 ∈ rest := getD_mem (by (first | lia | omega))
  have W' := Wat.attach (c := rest) G.wat G.wl (hlr _ m0) (hlr _ m1) (nd_01 h2 g.nd)
  have S' : WS (D.attach rest) (fun _ => D.head) := G.ws.attach fun a b hab i _ ht => by
    have hm := List.mem_of_getElem? ht
    rcases hab with ⟨e, _⟩ | ⟨_, e⟩
    · exact absurd hm (e ▸ (g.sub _ m0).2.2)
    · exact absurd hm (e ▸ (g.sub _ m1).2.2)
  have Ga : Good (With M c) (D.attach rest) := ⟨{ C' with }, by simp [Dat.attach, Dat.push, G.wl], W', S', G.lh, G.ht⟩
  exact ⟨B.n1, B.n5, B.found, fun c' hc σ hσ => B.lrn c' hc σ hσ.1, B.lit, B.len, by have := B.nl; show D.learned.length ≤ N + 1; (first | lia | omega), .inr ⟨h1, Ga, h3, by show (D.cls ++ [rest]).length ≤ N + 1; simp; (first | lia | omega), h5⟩⟩
end
end
-- W12
section
set_option compiler.extract_closed false
theorem AHeap.set_set (H : AHeap) (a : Addr) (c c' : Cell) : (H.set a c).set a c' = H.set a c' := by
  funext b; unfold AHeap.set; split <;> rfl
theorem Gath.nil (D : Dat) (k : List Int) : Gath D (k.take 0) [] := ⟨(fun l h => by cases h), (fun l h => by simp at h), by simp⟩
theorem take_succ' {α : Type} {k : List α} {i : Nat} {l : α} (h : k[i]? = some l) : k.take (i + 1) = k.take i ++ [l] := by rw [List.take_add_one, h]; rfl
theorem Gath.push {D : Dat} {k rest : List Int} {i : Nat} {l : Int} (g : Gath D (k.take i) rest) (hn : (k.map Int.natAbs).Nodup) (h : k[i]? = some l) (h1 : l ∉ D.trail) (h2 : -l ∉ D.trail) : Gath D (k.take (i + 1)) (rest ++ [l]) := by
  rw [take_succ' h]
  refine ⟨fun x hx => ?_, fun x hx hr => ?_, ?_⟩
  · rcases List.mem_append.mp hx with e | e
    · obtain ⟨a, b, c⟩ := g.sub x e; exact ⟨by simp [a], b, c⟩
    · rw [List.mem_singleton.mp e]; exact ⟨by simp, h1, h2⟩
  · rcases List.mem_append.mp hx with e | e
    · exact g.out x e fun h => hr (by simp [h])
    · exact absurd (by rw [List.mem_singleton.mp e]; simp) hr
  · rw [List.map_append]
    refine nodup_snoc g.nd fun hm => ?_
    obtain ⟨x, hx, e⟩ := List.mem_map.mp hm
    obtain ⟨j, hj⟩ := List.getElem?_of_mem (g.sub x hx).1
    have hjl := get?_lt hj
    rw [List.length_take] at hjl
    rw [List.getElem?_take_of_lt (by (first | lia | omega))] at hj
    have := nodup_idx hn (i := j) (j := i) (v := l.natAbs) (by rw [List.getElem?_map, hj]; exact congrArg some e) (by rw [List.getElem?_map, h]; rfl)
    (first | lia | omega)
theorem Gath.skip {D : Dat} {k rest : List Int} {i : Nat} {l : Int} (g : Gath D (k.take i) rest) (h : k[i]? = some l) (h1 : -l ∈ D.trail) : Gath D (k.take (i + 1)) rest := by
  rw [take_succ' h]
  refine ⟨fun x hx => ?_, fun x hx hr => ?_, g.nd⟩
  · obtain ⟨a, b, c⟩ := g.sub x hx; exact ⟨by simp [a], b, c⟩
  · rcases List.mem_append.mp hx with e | e
    · exact g.out x e hr
    · rw [List.mem_singleton.mp e]; exact h1
theorem Gath.len {D : Dat} {k rest : List Int} (g : Gath D k rest) (h : ∀ l ∈ k, Lit D.n l) : rest.length ≤ D.n := lit_len (fun l hl => h l (g.sub l hl).1) g.nd
section
variable {a : Amb hd.heap_39} {A₀ : Around} {L : Addr} {m : Loc} {H : AHeap} {Q : Value → AHeap → Prop} {x : Addr} {A : Ad} {D : Dat}
theorem plain_clause_c {T : Addr} {c : List Int} (hT : H T = some (.tuple (c.map vi))) (hz : c.length ≤ 100) (hR : Rm A₀ 1)
    (q1 : ∀ (K : Addr) (kept : List Int), H K = none → plain [] c = some kept → Q (.ref K) (H.set K (.list (kept.map vi))))
    (q2 : ∀ (K : Addr) (kept : List Int), H K = none → plain [] c = none → Q .none (H.set K (.list (kept.map vi)))) : CA a A₀ L m (.ref 35) [.ref T] H Q := by
  refine c_def1 (p := Str.ofString "clause") (at_plain_clause _) (cd_plain_clause _) hR (fun _ => by with_unfolding_all rfl) (by decide) (by decide) (fun L' A' R' => ?_)
  walk_at "xs"
  refine ⟨by simp, fun K hK => ?_⟩
  walk_at "xs"
  refine s_for (fun _ => rfl) (fun _ _ => rfl) R'.handled ?_
  walk_at "xs"
  have hKT : T ≠ K := fun e => by rw [e, hK] at hT; cases hT
  refine ⟨_, _, fun i m₂ H₂ => ∃ kept : List Int, m₂ (Str.ofString "kept") = some (.ref K) ∧ H₂ = H.set K (.list (kept.map vi)) ∧ kept.length ≤ i ∧ plain [] c = plain kept (c.drop i), .tuple ((AHeap.set_ne _ _ hKT).trans hT), ⟨[], by walk_at "loc", rfl, by simp, by simp⟩, ?_, ?_⟩
  · rintro i v m₂ H₂ hv ⟨kept, hm1, rfl, hkl, hp⟩ hKr v' hv'
    obtain ⟨l, hl, rfl⟩ : ∃ l, c[i]? = some l ∧ v = vi l := by
      rw [List.getElem?_map] at hv; obtain ⟨k, h1, h2⟩ := Option.map_eq_some_iff.mp hv; exact ⟨k, h1, h2.symm⟩
    have hi := (List.getElem?_eq_some_iff.mp hl).1
    rw [drop_cons hl] at hp
    have hk : (H.set K (.list (kept.map vi))) K = some (.list (kept.map vi)) := AHeap.set_same ..
    walk_at "xs"
    refine o_in hk ?_
    walk_at "xs"
    refine ite_b (fun hb => ?_) (fun hb => ?_)
    · walk_at "xs"
      rw [plain, if_pos hb] at hp
      exact q2 K kept hK hp
    · walk_at "xs"
      refine o_notin hk ?_
      walk_at "xs"
      refine ite_b (fun hc => ?_) (fun hc => ?_)
      · walk_at "xs"
        refine app_ri hk ?_
        walk_at "xs"
        refine ⟨_, rfl, rfl, by (first | lia | omega), ?_⟩
        walk_at "xs"
        rw [AHeap.set_set]
        rw [plain, if_neg (by rw [hb]; decide), if_neg (by cases hx : kept.any (· == l) <;> simp_all)] at hp
        exact ⟨⟨kept ++ [l], by walk_at "loc", rfl, by simp; (first | lia | omega), hp⟩, (AHeap.set_ne _ _ hKT).trans hT⟩
      · walk_at "xs"
        rw [plain, if_neg (by rw [hb]; decide), if_pos (by cases hx : kept.any (· == l) <;> simp_all)] at hp
        exact ⟨⟨kept, by walk_at "loc", rfl, by (first | lia | omega), hp⟩, (AHeap.set_ne _ _ hKT).trans hT⟩
  · rintro m₂ H₂ ⟨kept, hm1, rfl, hkl, hp⟩
    walk_at "xs"
    refine q1 K kept hK ?_
    rw [hp, List.length_map, List.drop_length, plain]
theorem add_c {T : Addr} {c : List Int} {M : (Nat → Bool) → Prop} {N : Nat} (h : SolAt H x A D) (B : Base M D N) (hN : N ≤ 1800) (hT : H T = some (.tuple (c.map vi))) (hl : ∀ l ∈ c, Lit D.n l) (hz : c.length ≤ 100) (hR : Rm A₀ 5)
    (q : ∀ A' H' D', SolAt H' x A' D' → Ext A H A' H' → D'.n = D.n → Base (With M c) D' (N + 1) → Q .none H') : CA a A₀ L m (.ref 68) [.ref x, .ref T] H Q := by
  refine c_def2 (p := Str.ofString "self") (q := Str.ofString "clause") (at_add _) (cd_add _) hR (fun _ _ => by with_unfolding_all rfl) (by decide) (by decide) (fun L' A' R' => ?_)
  walk_at "xs"
  refine CA.oc (plain_clause_c hT hz (R'.le (by (first | lia | omega))) (fun K kept hK hp => ?_) (fun K kept hK hp => ?_))
  · obtain ⟨hkn, hkc⟩ := plain_some (by simp) hp
    have hkl : ∀ l ∈ kept, Lit D.n l := fun l h' => hl l (by simpa using (hkc l).mp h')
    have hklen : kept.length ≤ 5 := by have := lit_len hkl hkn; have := B.n5; (first | lia | omega)
    walk_at "xs"
    refine o_is_none (.inr ⟨_, rfl⟩) ?_
    walk_at "xs"
    rw [show ((Value.ref K == Value.none) = false) from rfl]
    have h₁ := h.beside (c := .list (kept.map vi)) hK
    have e₁ : Ext A H A _ := Ext.fresh (c := .list (kept.map vi)) hK
    have hk : (H.set K (.list (kept.map vi))) K = some (.list (kept.map vi)) := AHeap.set_same ..
    have ko := h.fresh_own hK
    generalize hH₁ : H.set K (.list (kept.map vi)) = H₁ at *
    walk_at "xs"
    refine ite_b (fun hr => ?_) (fun hr => ?_)
    · walk_at "xs"
      exact q A _ D h₁ e₁ rfl (B.dead hr)
    · obtain ⟨G, hlim, hcl, hac⟩ : Good M D ∧ D.lims = [] ∧ D.cls.length ≤ N ∧ D.acts.length = D.n + 1 := by
        rcases B.st with ⟨h1, _⟩ | ⟨_, h⟩
        · rw [hr] at h1; cases h1
        · exact h
      have z := G.sz (B.bd (by (first | lia | omega)) hlim hcl hac)
      have zv := z.vals
      have zn := z.n
      walk_at "xs"
      refine ⟨by simp, fun R hR => ?_⟩
      walk_at "xs"
      refine s_for (fun _ => rfl) (fun _ _ => rfl) R'.handled ?_
      walk_at "xs"
      have hKR : K ≠ R := fun e => by rw [← e, hk] at hR; cases hR
      refine ⟨_, _, fun i m₂ H₂ => ∃ rest : List Int, m₂ (Str.ofString "self") = some (.ref x) ∧ m₂ (Str.ofString "rest") = some (.ref R) ∧ H₂ = H₁.set R (.list (rest.map vi)) ∧ Gath D (kept.take i) rest, .list ((AHeap.set_ne _ _ hKR).trans hk), ⟨[], by walk_at "loc", by walk_at "loc", rfl, Gath.nil D kept⟩, ?_, ?_⟩
      · rintro i v m₂ H₂ hv ⟨rest, hm1, hm2, rfl, g⟩ hKr v' hv'
        obtain ⟨l, hli, rfl⟩ : ∃ l, kept[i]? = some l ∧ v = vi l := by
          rw [List.getElem?_map] at hv; obtain ⟨k, h1, h2⟩ := Option.map_eq_some_iff.mp hv; exact ⟨k, h1, h2.symm⟩
        have hll := hkl l (List.mem_of_getElem? hli)
        have hl2 := hll.2
        have hi := (List.getElem?_eq_some_iff.mp hli).1
        have hk : (H₁.set R (.list (rest.map vi))) R = some (.list (rest.map vi)) := AHeap.set_same ..
        have h₂ := h₁.beside (c := .list (rest.map vi)) hR
        have e₂ := e₁.trans (Ext.fresh (c := .list (rest.map vi)) hR)
        have hrl : rest.length ≤ 5 := by have := g.len (fun l h => hkl l (List.mem_of_mem_take h)); (first | lia | omega)
        walk_at "xs"
        refine CA.oc (value_c h₂ (by (first | lia | omega)) (by (first | lia | omega)) (R'.le (by (first | lia | omega))) ?_)
        walk_at "xs"
        refine ite_e (fun e1 => ?_) (fun e1 => ?_)
        · walk_at "xs"
          have hmem := (G.core.val_pos hll).mp e1
          exact q A _ D h₂ e₂ rfl (B.same fun σ hσ => (plain_sat hp σ).mp ⟨l, List.mem_of_getElem? hli, G.level0 hlim hσ l hmem⟩)
        · walk_at "xs"
          refine CA.oc (value_c h₂ (by (first | lia | omega)) (by (first | lia | omega)) (R'.le (by (first | lia | omega))) ?_)
          walk_at "xs"
          refine ite_e (fun e0 => ?_) (fun e0 => ?_)
          · walk_at "xs"
            refine app_ri hk ?_
            walk_at "xs"
            refine ⟨_, rfl, rfl, by (first | lia | omega), ?_⟩
            walk_at "xs"
            rw [AHeap.set_set]
            obtain ⟨n1, n2⟩ := (G.core.val_zero hll).mp e0
            exact ⟨⟨rest ++ [l], by walk_at "loc", by walk_at "loc", rfl, g.push hkn hli n1 n2⟩, (AHeap.set_ne _ _ hKR).trans (by assumption)⟩
          · walk_at "xs"
            have hneg : -l ∈ D.trail := by
              by_cases n1 : l ∈ D.trail
              · exact absurd ((G.core.val_pos hll).mpr n1) e1
              · by_cases n2 : -l ∈ D.trail
                · exact n2
                · exact absurd ((G.core.val_zero hll).mpr ⟨n1, n2⟩) e0
            exact ⟨⟨rest, by walk_at "loc", by walk_at "loc", rfl, g.skip hli hneg⟩, (AHeap.set_ne _ _ hKR).trans (by assumption)⟩
      · rintro m₂ H₂ ⟨rest, hm1, hm2, rfl, g⟩
        rw [List.length_map, List.take_length] at g
        have hk : (H₁.set R (.list (rest.map vi))) R = some (.list (rest.map vi)) := AHeap.set_same ..
        have h₂ := h₁.beside (c := .list (rest.map vi)) hR
        have ro := h₁.fresh_own hR
        have e₂ := e₁.trans (Ext.fresh (c := .list (rest.map vi)) hR)
        have hrl : rest.length ≤ 5 := by have := g.len hkl; (first | lia | omega)
        have hrn : ∀ l ∈ rest, l.natAbs ≤ D.n := fun l h => (hkl l (g.sub l h).1).2
        walk_at "xs"
        refine t_list hk (by rw [List.length_map]; (first | lia | omega)) ?_
        walk_at "xs"
        refine ite_b (fun hem => ?_) (fun hem => ?_)
        · have er : rest = [] := by cases rest <;> simp_all
          subst er
          walk_at "xs"
          refine CA.oc (refute_c h₂ z (R'.le (by (first | lia | omega))) fun A₃ H₃ h₃ e₃ => ?_)
          walk_at "xs"
          exact q A₃ H₃ _ h₃ (e₂.trans e₃) rfl (B.refute hr hl hp g)
        · walk_at "xs"
          refine c_len_list hk (by rw [List.length_map]; (first | lia | omega)) ?_
          rw [List.length_map]
          walk_at "xs"
          have hpos : 0 < rest.length := List.length_pos_iff.mpr (fun e => by rw [e] at hem; simp at hem)
          refine ite_e (fun e1 => ?_) (fun e1 => ?_)
          · obtain ⟨l, rfl⟩ : ∃ l, rest = [l] := by
              match rest, e1 with
              | [l], _ => exact ⟨l, rfl⟩
              | l :: _ :: _, e => exact absurd e (by simp; (first | lia | omega))
            walk_at "xs"
            refine o_item (fun _ _ => ⟨_, rfl⟩) hk (by (first | lia | omega)) (map_get (l := [l]) (i := 0) (d := 0) (by simp)) (by simp) ?_
            walk_at "xs"
            refine CA.oc (assign_c (l := l) h₂ z.toA (hrn l (by simp)) (R'.le (by (first | lia | omega))) fun H₃ h₃ e₃ => ?_)
            walk_at "xs"
            exact q A H₃ _ h₃ (e₂.trans e₃) rfl (B.assign hr hl hp g)
          · walk_at "xs"
            refine CA.oc (attach_c h₂ z hk ro (by (first | lia | omega)) hrn (R'.le (by (first | lia | omega))) fun H₃ h₃ e₃ => ?_)
            walk_at "xs"
            refine q _ H₃ _ h₃ (e₁.trans (Ext.ofX (Ext.refl A H₁) ((ExtX.fresh hR).trans e₃) (fun b hb => by rw [hb]; exact hR))) rfl (B.attach hr hl hp g (by (first | lia | omega)))
  · walk_at "xs"
    refine o_is_none (.inl rfl) ?_
    walk_at "xs"
    rw [show ((Value.none == Value.none) = true) from rfl]
    refine ift ?_
    refine ift ?_
    walk_at "xs"
    refine q A _ D (h.beside hK) (Ext.fresh hK) rfl (B.same fun σ _ => ?_)
    have := plain_none (fun l h' => (hl l h').1) hp σ
    simpa [Sat] using this
end
end
-- Pure6
section
/-- what every state of solve keeps -/
structure Kp (M : (Nat → Bool) → Prop) (n : Nat) (D : Dat) : Prop where
  n : D.n = n
  found : D.found.length = D.n + 1
  lrn : ∀ c ∈ D.learned, ∀ σ, M σ → Sat σ c
  lit : ∀ c ∈ D.learned, ∀ l ∈ c, Lit D.n l
  len : ∀ c ∈ D.learned, c.length ≤ 5
/-- solve, its clauses not refuted, after c conflicts -/
structure Live (M : (Nat → Bool) → Prop) (As : List Int) (n N : Nat) (D : Dat) (c : Nat) : Prop where
  kp : Kp M n D
  ref : D.refuted = false
  good : Good M D
  asm : Asm As D
  lt : ∀ p ∈ D.lims, p < D.trail.length
  cls : D.cls.length ≤ N + c
  nl : D.learned.length ≤ N + c
  acts : D.acts.length = D.n + 1
  up : c ≤ Bm D.lims D.trail.length
structure Dead (M : (Nat → Bool) → Prop) (n N : Nat) (D : Dat) : Prop where
  kp : Kp M n D
  ref : D.refuted = true
  no : ∀ σ, ¬ M σ
  nl : D.learned.length ≤ N
def mu (D : Dat) : Nat := if D.refuted = true then 0 else 1 + ((31 - Bm D.lims D.trail.length) * 8 + (6 - D.trail.length))
theorem Kp.grow {M : (Nat → Bool) → Prop} {n : Nat} {D D' : Dat} (k : Kp M n D) (g : Grow D D') : Kp M n D' :=
  ⟨g.n.trans k.n, by rw [g.found, g.n]; exact k.found, by rw [g.learned]; exact k.lrn, by rw [g.learned, g.n]; exact k.lit, by rw [g.learned]; exact k.len⟩
namespace Live
variable {M : (Nat → Bool) → Prop} {As : List Int} {n N c : Nat} {D D' : Dat} (V : Live M As n N D c)
include V
theorem tl : D.trail.length ≤ 5 := by have := V.good.core.tlen; have := V.good.core.n5; (first | lia | omega)
theorem c31 : c ≤ 31 := by
  have := V.up
  have := Bm_le (lims := D.lims) (N := D.trail.length) V.tl
  (first | lia | omega)
theorem bd (hA : As.length ≤ 50) (hN : N ≤ 1800) : Bd D :=
  ⟨by have := V.asm.len; have := V.tl; (first | lia | omega), by have := V.cls; have := V.c31; (first | lia | omega), by have := V.nl; have := V.c31; (first | lia | omega), V.kp.found, V.acts⟩
/-- the trail grows -/
theorem grow (g : Grow D D') (G : Good M D') : Live M As n N D' c ∧ mu D' ≤ mu D := by
  obtain ⟨e, he⟩ := g.pre
  have hl : D'.trail.length = D.trail.length + e.length := by rw [he, List.length_append]
  have hb : Bm D.lims D.trail.length ≤ Bm D'.lims D'.trail.length := by rw [g.lims, hl]; exact Bm_mono (by (first | lia | omega))
  refine ⟨⟨V.kp.grow g, g.refuted.trans V.ref, G, V.asm.grow g V.lt, ?_, by rw [g.cls]; exact V.cls, by rw [g.learned]; exact V.nl, by rw [g.acts, g.n]; exact V.acts, by have := V.up; (first | lia | omega)⟩, ?_⟩
  · rw [g.lims, hl]; intro p hp; have := V.lt p hp; (first | lia | omega)
  · unfold mu
    rw [g.refuted, V.ref, if_neg (by decide), if_neg (by decide)]; (omega)
/-- levels without literals, then a decision -/
theorem decide (hh : D.head = D.trail.length) {k : Nat} {l : Int} (hk : k = 0 ∨ D.lims.length + k ≤ As.length) (hv : ∀ i l, D.lims.length ≤ i → i < D.lims.length + k → As[i]? = some l → l ∈ D.trail)
    (hl : Lit D.n l) (h1 : l ∉ D.trail) (h2 : -l ∉ D.trail) (ha : As[D.lims.length + k]? = some l ∨ As.length ≤ D.lims.length + k) :
    Live M As n N (({ D with lims := (D.lims ++ List.replicate k D.trail.length) ++ [D.trail.length] } : Dat).assign l (-1)) c ∧ mu (({ D with lims := (D.lims ++ List.replicate k D.trail.length) ++ [D.trail.length] } : Dat).assign l (-1)) < mu D := by
  have G₁ := V.good.lims hh k
  have A₁ := V.asm.lims V.lt hk hv
  have G₂ := G₁.decide (l := l) hh hl h1 h2
  have hp : ∀ p ∈ D.lims ++ List.replicate k D.trail.length, p ≤ D.trail.length := fun p hp => by
    rcases List.mem_append.mp hp with h | h
    · exact Nat.le_of_lt (V.lt p h)
    · exact Nat.le_of_eq (List.eq_of_mem_replicate h)
  have A₂ := A₁.decide (l := l) (r := -1) hp (by simpa using ha)
  have hb : Bm ((D.lims ++ List.replicate k D.trail.length) ++ [D.trail.length]) (D.trail.length + 1) = Bm D.lims D.trail.length := by
    rw [Bm, if_pos (by simp)]
    refine Bm_congr fun q hq => ?_
    simp only [List.mem_append, List.mem_singleton, List.mem_replicate]
    constructor
    · rintro ((h | ⟨_, h⟩) | h)
      · exact h
      · (first | lia | omega)
      · (first | lia | omega)
    · intro h; exact .inl (.inl h)
  have ht : (({ D with lims := (D.lims ++ List.replicate k D.trail.length) ++ [D.trail.length] } : Dat).assign l (-1)).trail.length = D.trail.length + 1 := by simp [Dat.assign]
  have tl' := G₂.core.tlen
  have n5' := G₂.core.n5
  refine ⟨⟨⟨V.kp.n, V.kp.found, V.kp.lrn, V.kp.lit, V.kp.len⟩, V.ref, G₂, A₂, ?_, V.cls, V.nl, V.acts, ?_⟩, ?_⟩
  · intro p hp'
    rw [ht]
    rcases List.mem_append.mp hp' with h | h
    · have := hp p h; (first | lia | omega)
    · rw [List.mem_singleton.mp h]; (first | lia | omega)
  · rw [ht]
    show c ≤ Bm ((D.lims ++ List.replicate k D.trail.length) ++ [D.trail.length]) (D.trail.length + 1)
    rw [hb]; exact V.up
  · unfold mu
    rw [ht]
    show (if D.refuted = true then 0 else 1 + ((31 - Bm ((D.lims ++ List.replicate k D.trail.length) ++ [D.trail.length]) (D.trail.length + 1)) * 8 + (6 - (D.trail.length + 1)))) < _
    rw [hb, V.ref, if_neg (by decide), if_neg (by decide)]
    have := V.tl; (first | lia | omega)
/-- all assumptions stand, all is assigned: a model -/
theorem model (hh : D.head = D.trail.length) {k : Nat} (hk : k = 0 ∨ D.lims.length + k ≤ As.length) (hv : ∀ i l, D.lims.length ≤ i → i < D.lims.length + k → As[i]? = some l → l ∈ D.trail)
    (ha : As.length ≤ D.lims.length + k) (hf : ∀ v, 1 ≤ v → v ≤ D.n → D.vals.getD v 0 ≠ 0) : M (fun v => D.vals.getD v 0 == 1) ∧ ∀ l ∈ As, Mine.tl (fun v => D.vals.getD v 0 == 1) l := by
  have C := V.good.core
  have tr : ∀ l ∈ D.trail, Mine.tl (fun v => D.vals.getD v 0 == 1) l := fun l hl => by
    have hll := C.lit l hl
    have hp := (C.val_pos hll).mpr hl
    unfold Mine.tl
    unfold valI at hp
    obtain ⟨h0, _⟩ := hll
    by_cases hn : l < 0
    · rw [if_pos hn] at hp
      have e : l.natAbs = (-l).toNat := by (first | lia | omega)
      have : ¬ 0 < l := by (first | lia | omega)
      simp only [e, this, decide_false]
      have : D.vals.getD (-l).toNat 0 = -1 := by (first | lia | omega)
      rw [this]; rfl
    · rw [if_neg hn] at hp
      have e : l.natAbs = l.toNat := by (first | lia | omega)
      have : 0 < l := by (first | lia | omega)
      simp only [e, this, decide_true]
      rw [hp]; rfl
  have full : ∀ l, Lit D.n l → l ∈ D.trail ∨ -l ∈ D.trail := fun l hl => by
    by_cases h1 : l ∈ D.trail
    · exact .inl h1
    · by_cases h2 : -l ∈ D.trail
      · exact .inr h2
      · exfalso
        have := (C.val_zero hl).mpr ⟨h1, h2⟩
        obtain ⟨h0, hn⟩ := hl
        unfold valI at this
        split at this
        · exact hf (-l).toNat (by (first | lia | omega)) (by (first | lia | omega)) (by (first | lia | omega))
        · exact hf l.toNat (by (first | lia | omega)) (by (first | lia | omega)) (by (first | lia | omega))
  refine ⟨C.conv _ (fun c' hc => ?_) (fun i l hi _ => tr l (List.mem_of_getElem? hi)), fun l hl => ?_⟩
  · have h2 := C.clen c' hc
    have m0 := getD_mem (c := c') (i := 0) (by (first | lia | omega))
    have m1 := getD_mem (c := c') (i := 1) (by (first | lia | omega))
    rcases full _ (C.clit c' hc _ m0) with h | h
    · exact ⟨_, m0, tr _ h⟩
    · obtain ⟨i, hi⟩ := List.getElem?_of_mem h
      obtain ⟨k', hk'⟩ := List.getElem?_of_mem hc
      obtain ⟨j, hj, _⟩ := V.good.ws k' c' hk' _ _ (.inl ⟨rfl, rfl⟩) i (by have := get?_lt hi; show i < D.head; (first | lia | omega)) hi
      exact ⟨_, m1, tr _ (List.mem_of_getElem? hj)⟩
  · obtain ⟨i, hi⟩ := List.getElem?_of_mem hl
    by_cases h : i < D.lims.length
    · obtain ⟨j, hj, _⟩ := V.asm.tru i l hi h
      exact tr l (List.mem_of_getElem? hj)
    · exact tr l (hv i l (by (first | lia | omega)) (by have := get?_lt hi; (first | lia | omega)) hi)
/-- an assumption that is false -/
theorem refused {l : Int} (hl : l ∈ As) (hle : D.lims.length ≤ As.length) (h : -l ∈ D.trail) (h0 : l ≠ 0) : ∀ σ, M σ → ¬ ∀ l ∈ As, Mine.tl σ l := by
  intro σ hσ ha
  obtain ⟨i, hi⟩ := List.getElem?_of_mem h
  have hlev := levI_le D.lims i
  have := V.good.core.follow (m := As.length) hσ (fun j x hj hm hle => ha x (V.asm.dec j x hj hm hle)) i _ hi (by unfold Dat.lev; (first | lia | omega))
  exact (tl_neg h0).mp this (ha l hl)
end Live
/-- a conflict below every decision -/
theorem Conf.unsat {M : (Nat → Bool) → Prop} {D : Dat} {h₀ k : Nat} (F : Conf M D h₀ k) (h : D.lims = []) : ∀ σ, ¬ M σ := by
  intro σ hσ
  obtain ⟨c, f, hk, _, _, hall⟩ := F.cl
  have hc := List.mem_of_getElem? hk
  obtain ⟨l, hl, ht⟩ := F.core.imp σ hσ c hc
  obtain ⟨i, hi⟩ := List.getElem?_of_mem (hall l hl)
  have := F.core.follow (m := 0) hσ (fun i l _ hm => by rw [h] at hm; cases hm) i _ hi (by rw [lev_nil h]; exact Nat.le_refl _)
  exact (tl_neg (F.core.clit c hc l hl).1).mp this ht
theorem Conf.step {M : (Nat → Bool) → Prop} {D : Dat} {h₀ k : Nat} (F : Conf M D h₀ k) (acts : List Int) (step : Int) : Conf M { D with acts := acts, step := step } h₀ k :=
  ⟨{ F.core with }, F.wl, ⟨F.wat.nd, F.wat.lt, F.wat.ex⟩, F.ws, F.lh, F.cl⟩
theorem LC.step {M : (Nat → Bool) → Prop} {D : Dat} {f : Int} {rest : List Int} {back : Nat} (l : LC M D f rest back) (acts : List Int) (step : Int) : LC M { D with acts := acts, step := step } f rest back :=
  ⟨l.sat, l.lit, l.nd, l.top, l.low, l.sec, l.lt, l.zero⟩
theorem Good.step {M : (Nat → Bool) → Prop} {D : Dat} (G : Good M D) (step : Int) : Good M { D with step := step } :=
  ⟨{ G.core with }, G.wl, ⟨G.wat.nd, G.wat.lt, G.wat.ex⟩, G.ws, G.lh, G.ht⟩
theorem Asm.step {As : List Int} {D : Dat} (a : Asm As D) (acts : List Int) (step : Int) : Asm As { D with acts := acts, step := step } := ⟨a.dec, a.tru, a.len, a.lenk⟩
theorem Live.conflict {M : (Nat → Bool) → Prop} {As : List Int} {n N c h₀ k back : Nat} {D D' D₂ : Dat} {f : Int} {rest acts' : List Int} {step' step'' : Int} (V : Live M As n N D c) (g : Grow D D') (F : Conf M D' h₀ k) (hh : h₀ < D'.trail.length)
    (ha : acts'.length = D'.acts.length) (l : LC M D' f rest back) (hD : D₂ = (({ D' with acts := acts', step := step' } : Dat).cancel back).learn (f :: rest)) :
    Live M As n N { D₂ with step := step'' } (c + 1) ∧ mu { D₂ with step := step'' } < mu D := by
  obtain ⟨e, he⟩ := g.pre
  have hl : D'.trail.length = D.trail.length + e.length := by rw [he, List.length_append]
  have hb : Bm D.lims D.trail.length ≤ Bm D'.lims D'.trail.length := by rw [g.lims, hl]; exact Bm_mono (by (first | lia | omega))
  have lt' : ∀ p ∈ D'.lims, p < D'.trail.length := by rw [g.lims, hl]; intro p hp; have := V.lt p hp; (first | lia | omega)
  have Ln := learned_of (F.step acts' step') lt' hh (l.step acts' step')
  rw [← hD] at Ln
  have up := Ln.up
  (try dsimp only at up)
  have kp' := V.kp.grow g
  have lm : ∀ x ∈ D₂.learned, x ∈ D'.learned ∨ x = f :: rest := fun x hx => by
    rw [Ln.learned] at hx; simpa using hx
  have hn : D₂.n = D'.n := Ln.n
  have llen : (f :: rest).length ≤ 5 := by have := lit_len l.lit l.nd; have := F.core.n5; (first | lia | omega)
  refine ⟨⟨⟨hn.trans kp'.n, by show D₂.found.length = D₂.n + 1; rw [Ln.found, hn]; exact kp'.found, fun x hx => ?_, fun x hx => ?_, fun x hx => ?_⟩, ?_, Ln.good.step step'', (Ln.asm As ((V.asm.grow g V.lt).step acts' step')).step D₂.acts step'', Ln.lt, ?_, ?_, ?_, ?_⟩, ?_⟩
  · rcases lm x hx with h | h
    · exact kp'.lrn x h
    · rw [h]; exact l.sat
  · show ∀ y ∈ x, Lit D₂.n y
    rw [hn]
    rcases lm x hx with h | h
    · exact kp'.lit x h
    · rw [h]; exact l.lit
  · rcases lm x hx with h | h
    · exact kp'.len x h
    · rw [h]; exact llen
  · show D₂.refuted = false; rw [Ln.refuted]; exact g.refuted.trans V.ref
  · show D₂.cls.length ≤ _
    have := Ln.cls
    have h2 := V.cls
    rw [← g.cls] at h2
    (try dsimp only at this); (first | lia | omega)
  · show D₂.learned.length ≤ _
    rw [Ln.learned]; have := V.nl; rw [← g.learned] at this; simp; (first | lia | omega)
  · show D₂.acts.length = D₂.n + 1
    rw [Ln.acts, hn]
    show acts'.length = _
    rw [ha, g.acts, g.n]; exact V.acts
  · show c + 1 ≤ Bm D₂.lims D₂.trail.length
    have := V.up; (omega)
  · unfold mu
    show (if D₂.refuted = true then 0 else 1 + ((31 - Bm D₂.lims D₂.trail.length) * 8 + (6 - D₂.trail.length))) < _
    rw [Ln.refuted]
    show (if D'.refuted = true then 0 else _) < _
    rw [g.refuted, V.ref, if_neg (by decide), if_neg (by decide)]
    have b2 := Bm_le (lims := D₂.lims) (N := D₂.trail.length) (by have := Ln.good.core.tlen; have := Ln.good.core.n5; (first | lia | omega))
    (omega)
theorem Live.refute {M : (Nat → Bool) → Prop} {As : List Int} {n N c h₀ k : Nat} {D D' : Dat} (V : Live M As n N D c) (g : Grow D D') (F : Conf M D' h₀ k) (h : D'.lims = []) :
    Dead M n (N + 40) { D' with refuted := true, learned := D'.learned ++ [[]] } ∧ mu { D' with refuted := true, learned := D'.learned ++ [[]] } < mu D := by
  have kp' := V.kp.grow g
  have no := F.unsat h
  have lm : ∀ x ∈ D'.learned ++ [[]], x ∈ D'.learned ∨ x = [] := fun x hx => by simpa using hx
  refine ⟨⟨⟨kp'.n, kp'.found, fun x hx σ hσ => absurd hσ (no σ), fun x hx => ?_, fun x hx => ?_⟩, rfl, no, ?_⟩, ?_⟩
  · rcases lm x hx with h | h
    · exact kp'.lit x h
    · rw [h]; intro y hy; cases hy
  · rcases lm x hx with h | h
    · exact kp'.len x h
    · rw [h]; simp
  · have := V.nl; rw [← g.learned] at this; have := V.c31; simp; (first | lia | omega)
  · unfold mu; rw [if_pos rfl, V.ref, if_neg (by decide)]; (omega)
/-- what solve answers -/
def Ans (M : (Nat → Bool) → Prop) (As : List Int) (D : Dat) (most : Int) (v : Value) : Prop :=
  (v = .none ∧ most ≤ 31) ∨ (v = vb false ∧ ∀ σ, M σ → ¬ ∀ l ∈ As, tl σ l) ∨ (v = vb true ∧ ∃ σ, M σ ∧ (∀ l ∈ As, tl σ l) ∧ ∀ i, 1 ≤ i → i ≤ D.n → D.found.getD i false = σ i)
theorem Base.live {M : (Nat → Bool) → Prop} {D : Dat} {N : Nat} (B : Base M D N) (As : List Int) : (D.refuted = true ∧ Dead M D.n N D) ∨ (D.refuted = false ∧ Live M As D.n N D 0) := by
  have k : Kp M D.n D := ⟨rfl, B.found, B.lrn, B.lit, B.len⟩
  rcases B.st with ⟨h1, h2⟩ | ⟨h1, G, h3, h4, h5⟩
  · exact .inl ⟨h1, k, h1, h2, B.nl⟩
  · exact .inr ⟨h1, k, h1, G, Asm.start h3, by rw [h3]; simp, by (first | lia | omega), by have := B.nl; (first | lia | omega), h5, Nat.zero_le _⟩
theorem Dead.base {M : (Nat → Bool) → Prop} {D : Dat} {n N : Nat} (V : Dead M n N D) (h1 : 1 ≤ n) (h5 : n ≤ 5) : Base M D N :=
  ⟨by rw [V.kp.n]; exact h1, by rw [V.kp.n]; exact h5, V.kp.found, V.kp.lrn, V.kp.lit, V.kp.len, V.nl, .inl ⟨V.ref, V.no⟩⟩
/-- the levels are closed at the end -/
theorem cancel_base {M : (Nat → Bool) → Prop} {D : Dat} {n N : Nat} (kp : Kp M n D) (ref : D.refuted = false) (G : Good M D) (cls : D.cls.length ≤ N) (nl : D.learned.length ≤ N) (acts : D.acts.length = D.n + 1) : Base M (D.cancel 0) N := by
  cases hl : D.lims with
  | nil =>
    rw [cancel_triv (by rw [hl]; exact Nat.le_refl _)]
    exact ⟨G.core.n1, G.core.n5, kp.found, kp.lrn, kp.lit, kp.len, nl, .inr ⟨ref, G, hl, cls, acts⟩⟩
  | cons p r =>
    have hp : D.lims[0]? = some p := by rw [hl]; rfl
    have hph : p ≤ D.head := G.lh p (by rw [hl]; simp)
    have hpl : p ≤ D.trail.length := Nat.le_trans hph G.ht
    have cs := cancel_same hp hpl
    have G' := Good.cancel G.core G.wl G.wat G.ws hp hph hpl
    exact ⟨by rw [cs.n]; exact G.core.n1, by rw [cs.n]; exact G.core.n5, by rw [cs.found, cs.n]; exact kp.found, by rw [cs.learned]; exact kp.lrn, by rw [cs.learned, cs.n]; exact kp.lit, by rw [cs.learned]; exact kp.len, by rw [cs.learned]; exact nl, .inr ⟨by rw [cs.refuted]; exact ref, G', by rw [cs.lims]; rfl, by rw [cs.cls]; exact cls, by rw [cs.acts, cs.n]; exact acts⟩⟩
theorem Good.l0 {M : (Nat → Bool) → Prop} {D : Dat} (G : Good M D) : D.lims.getD 0 0 ≤ D.trail.length := by
  cases hl : D.lims with
  | nil => simp
  | cons p r => simp; have := G.lh p (by rw [hl]; simp); have := G.ht; (first | lia | omega)
theorem cancel0_n {D : Dat} (h : D.lims.getD 0 0 ≤ D.trail.length) : (D.cancel 0).n = D.n ∧ (D.cancel 0).found = D.found := by
  cases hl : D.lims with
  | nil => rw [cancel_triv (by rw [hl]; exact Nat.le_refl _)]; exact ⟨rfl, rfl⟩
  | cons p r =>
    have hp : D.lims[0]? = some p := by rw [hl]; rfl
    have cs := cancel_same hp (by rw [← get?_getD (d := 0) hp]; exact h)
    exact ⟨cs.n, cs.found⟩
theorem Live.base {M : (Nat → Bool) → Prop} {D : Dat} {As : List Int} {n N c : Nat} (V : Live M As n N D c) (hc : c ≤ 40) : Base M (D.cancel 0) (N + 40) :=
  cancel_base V.kp V.ref V.good (by have := V.cls; (first | lia | omega)) (by have := V.nl; (first | lia | omega)) V.acts
/-- the same with levels that hold no literal, and another model noted -/
theorem Live.baseL {M : (Nat → Bool) → Prop} {D : Dat} {As : List Int} {n N c : Nat} (V : Live M As n N D c) (hh : D.head = D.trail.length) (k : Nat) {fd : List Bool} (hf : fd.length = D.n + 1) : Base M (({ D with lims := D.lims ++ List.replicate k D.trail.length, found := fd } : Dat).cancel 0) (N + 40) := by
  have G := V.good.lims hh k
  have hc := V.c31
  exact cancel_base ⟨V.kp.n, hf, V.kp.lrn, V.kp.lit, V.kp.len⟩ V.ref ⟨{ G.core with }, G.wl, ⟨G.wat.nd, G.wat.lt, G.wat.ex⟩, G.ws, G.lh, G.ht⟩ (by have := V.cls; (try dsimp only); (first | lia | omega)) (by have := V.nl; (try dsimp only); (first | lia | omega)) V.acts
end
-- K2
section
example : (fun (_ : OpenLaw) (_ : Params → Frag) => True) PySem.Challenge.rw_nn0314_01 hd.heap_39 := by
  k_fill
  trivial
theorem at_dflt (P : Params) : List.lookup 168 (hd.heap_39 P) = some { cls := Value.type "tuple", data := Data.seq #[Value.ref 167, Value.int 100000 406] } := by k_is
theorem at_none (P : Params) : List.lookup 167 (hd.heap_39 P) = some { cls := Value.type "tuple", data := Data.seq #[] } := by k_is
end
-- W13
section
set_option compiler.extract_closed false
section
variable {a : Amb hd.heap_39} {A₀ : Around} {L : Addr} {m : Loc} {H : AHeap} {Q : Value → AHeap → Prop} {x : Addr} {A : Ad} {D : Dat} {M : (Nat → Bool) → Prop}
theorem luby1_c (hR : Rm A₀ 1) (q : Q (vi 1) H) : CA a A₀ L m (.ref 21) [vi 1] H Q := by
  refine c_def1 (p := Str.ofString "place") (at_luby _) (cd_luby _) hR (fun _ => by with_unfolding_all rfl) (by decide) (by decide) (fun L' A' R' => ?_)
  walk_at "xs"
  refine s_while (fun n m₁ H₁ => m₁ (Str.ofString "rest") = some (vi 1) ∧ H₁ = H) 0 ⟨by walk_at "loc", rfl⟩ ?_
  rintro n m₁ H₁ ⟨hm, rfl⟩
  walk_at "xs"
  refine ⟨_, rfl, ?_⟩
  rw [show ((Builtin.Int.intBits 1 : Nat) : Int) = 1 by decide +kernel]
  walk_at "xs"
  refine o_shl (by decide) (by decide) (by decide) ?_
  walk_at "xs"
  refine ite_e (fun _ => ?_) (fun h => absurd rfl h)
  walk_at "xs"
  refine o_shl (by decide) (by decide) (by decide) ?_
  walk_at "xs"
  exact q
/-- the assumptions, handed in or by default -/
def AsAt (a : Amb hd.heap_39) (H : AHeap) (A : Ad) (T : Addr) (As : List Int) : Prop :=
  (H T = some (.tuple (As.map vi)) ∧ ¬ Own A T) ∨ (As = [] ∧ (hd.heap_39 a.w.params).lookup T = some { cls := .type "tuple", data := .seq #[] })
theorem AsAt.ext {A' : Ad} {H' : AHeap} {T : Addr} {As : List Int} (h : AsAt a H A T As) (e : Ext A H A' H') : AsAt a H' A' T As := h.imp (fun ⟨h, o⟩ => e T _ h o) id
theorem c_len_static {T : Addr} (h : (hd.heap_39 a.w.params).lookup T = some { cls := .type "tuple", data := .seq #[] }) (q : Q (vi 0) H) : OC a A₀ L m (.builtin "len") [.ref T] H Q := by
  intro vs' hv s S
  obtain ⟨y, rfl⟩ : ∃ y, vs' = [y] := by rcases vs' with _ | ⟨y, _ | ⟨z, r⟩⟩ <;> simp at hv; exact ⟨_, rfl⟩
  simp only [List.map_cons, List.map_nil, List.cons.injEq, and_true] at hv
  rw [er_ref hv]
  exact kun_lenT (k := 0) (items := #[]) ⟨_, S.X _ _ h, rfl, _, rfl⟩ (by decide) (by decide) ⟨H, S.toks rfl, Step.toks rfl rfl rfl, q⟩
theorem assume0_c {T : Addr} (h : SolAt H x A D) (z : Sz D) (hT : (hd.heap_39 a.w.params).lookup T = some { cls := .type "tuple", data := .seq #[] }) (hR : Rm A₀ 2) (q : Q (vi 0) H) : CA a A₀ L m (.ref 166) [.ref x, .ref T] H Q := by
  refine c_def2 (p := Str.ofString "self") (q := Str.ofString "assumptions") (at_assume _) (cd_assume _) hR (fun _ _ => by with_unfolding_all rfl) (by decide) (by decide) (fun L' A' R' => ?_)
  have zl := z.lims
  walk_at "xs"
  refine s_while (fun n m₁ H₁ => m₁ (Str.ofString "self") = some (.ref x) ∧ m₁ (Str.ofString "assumptions") = some (.ref T) ∧ H₁ = H) 0 ⟨by walk_at "loc", by walk_at "loc", rfl⟩ ?_
  rintro n m₁ H₁ ⟨hm, hm2, rfl⟩
  walk_at "xs"
  refine CA.oc (level_c h (by (first | lia | omega)) (R'.le (by (first | lia | omega))) ?_)
  walk_at "xs"
  refine c_len_static hT ?_
  walk_at "xs"
  refine ite_d (fun hlt => by exfalso; (first | lia | omega)) (fun hlt => ?_)
  walk_at "xs"
  exact q
theorem assumeA_c {T : Addr} {As : List Int} (h : SolAt H x A D) (z : Sz D) (hT : AsAt a H A T As) (hA : As.length ≤ 50) (hl : ∀ l ∈ As, l.natAbs ≤ D.n) (hR : Rm A₀ 2)
    (q : ∀ H' k r, SolAt H' x A { D with lims := D.lims ++ List.replicate k D.trail.length } → Ext A H A H' → (k = 0 ∨ D.lims.length + k ≤ As.length) → (∀ i l, D.lims.length ≤ i → i < D.lims.length + k → As[i]? = some l → valI D.vals l = 1) →
      ((r = 0 ∧ As.length ≤ D.lims.length + k) ∨ (As[D.lims.length + k]? = some r ∧ valI D.vals r ≠ 1)) → Q (vi r) H') : CA a A₀ L m (.ref 166) [.ref x, .ref T] H Q := by
  rcases hT with ⟨hT, ho⟩ | ⟨rfl, hT⟩
  · exact assume_c h z hT ho hA hl hR q
  · exact assume0_c h z hT hR (q H 0 0 (by simpa using h) (Ext.refl _ _) (.inl rfl) (fun i l h1 h2 => absurd h2 (by (first | lia | omega))) (.inl ⟨rfl, by simp⟩))
end
end
-- W14
section
set_option compiler.extract_closed false
section
variable {a : Amb hd.heap_39} {A₀ : Around} {L : Addr} {m : Loc} {H : AHeap} {Q : Value → AHeap → Prop} {x : Addr} {A : Ad} {D : Dat} {M : (Nat → Bool) → Prop}
theorem vn_succ2 (i : Nat) : vn (i + 1) = vi ((i : Int) + 1) := by show Value.int _ _ = Value.int _ _; congr 1
theorem jt_nil {KF : Params → Frag} {a : Amb KF} {env : Env} {QB : Bool → AHeap → Prop} (h : QB true H) : JT a A₀ L m env [] H QB := h
theorem jt_one {KF : Params → Frag} {a : Amb KF} {env : Env} {c : Expr} {QB : Bool → AHeap → Prop} (h : JB a A₀ L m (isTrue c env (eval c env)) H QB) : JT a A₀ L m env [c] H QB := h
theorem c_def3b {f : Addr} {vs : List Value} {v w u : Value} {p q r : Str} {oc : Value} {od : Option Addr} {osl : Array (Option Value)} {name qual : Str} {params : Arguments} {body : List Stmt} {scope : Scope} {dV kV doc pm cdv ct : Value} {an : Option Addr} {KF : Params → Frag} {a : Amb KF}
    (ho : (KF a.w.params).lookup f = some ⟨oc, od, .func (fnOf name qual params body scope dV kV doc pm an cdv ct), osl⟩) (hcd : codeIn (KF a.w.params) cdv qual = true) {d : Nat} (hR : Rm A₀ (d + 1))
    (hb : ∀ (s : Shared) (vs' : List Value), (KF a.w.params).In s.heap → vs'.map er = vs → ∃ bs', BindsTo s (fnOf name qual params body scope dV kV doc pm an cdv ct) ⟨vs', []⟩ bs' ∧ bs'.map (fun p => (p.1, er p.2)) = [(p, v), (q, w), (r, u)])
    (hloc : scope.names.lookup p = some .local ∧ scope.names.lookup q = some .local ∧ scope.names.lookup r = some .local)
    (hrest : (scope.isCoroutine || scope.isGenerator || scope.kind != .function || scope.names.any (fun y => y.2 == .cell)) = false)
    (hbody : ∀ L' A', Rm A' d → JS a A' L' (((nl.set p v).set q w).set r u) (execs body (envOf qual scope L' f cdv)) H (fun fl _ H' => Q (retOf fl) H')) : CA a A₀ L m (.ref f) vs H Q := by
  simp only [Bool.or_eq_false_iff, bne_eq_false_iff_eq, List.any_eq_false, beq_iff_eq] at hrest
  refine c_def (bs := [(p, v), (q, w), (r, u)]) ho hcd hR hb (fun y hy => ?_) (fun L' A' R' => ?_) hrest.1.1.1 hrest.1.1.2 hrest.1.2 (fun y hy => hrest.2 y hy)
  · rcases List.mem_cons.mp hy with e | e
    · rw [e]; exact hloc.1
    · rcases List.mem_cons.mp e with e | e
      · rw [e]; exact hloc.2.1
      · rw [List.mem_singleton.mp e]; exact hloc.2.2
  · have e : (fun x => ([(p, v), (q, w), (r, u)] : List (Str × Value)).reverse.lookup x) = ((nl.set p v).set q w).set r u := by
      funext y
      show List.lookup y [(r, u), (q, w), (p, v)] = _
      simp only [List.lookup_cons, List.lookup_nil, Loc.set, nl]
      by_cases h : y = r
      · subst h; simp
      · have : (y == r) = false := by simpa using h
        rw [this, if_neg h]
        by_cases h : y = q
        · subst h; simp
        · have : (y == q) = false := by simpa using h
          rw [this, if_neg h]
          by_cases h : y = p
          · subst h; simp
          · have : (y == p) = false := by simpa using h
            rw [this, if_neg h]
    rw [e]; exact hbody L' A' R'
structure SI (a : Amb hd.heap_39) (M : (Nat → Bool) → Prop) (As : List Int) (n N : Nat) (most : Int) (x T : Addr) (A : Ad) (H : AHeap) (c : Nat) (m₁ : Loc) (H₁ : AHeap) (A₁ : Ad) (D₁ : Dat) : Prop where
  self : m₁ (Str.ofString "self") = some (.ref x)
  asm : m₁ (Str.ofString "assumptions") = some (.ref T)
  most : m₁ (Str.ofString "most") = some (vi most)
  con : m₁ (Str.ofString "conflicts") = some (vn c)
  sin : m₁ (Str.ofString "since") = some (vn c)
  turn : m₁ (Str.ofString "turn") = some (vi 1)
  sol : SolAt H₁ x A₁ D₁
  ext : Ext A H A₁ H₁
  st : Dead M n (N + 40) D₁ ∨ Live M As n N D₁ c
theorem solve_c {T : Addr} {As : List Int} {N : Nat} {most : Int} {vs : List Value} (h : SolAt H x A D) (B : Base M D N) (hN : N ≤ 1700) (hT : AsAt a H A T As) (hA : As.length ≤ 50) (hl : ∀ l ∈ As, Lit D.n l) (hR : Rm A₀ 7)
    (hv : vs = [.ref x, .ref T, vi most] ∨ (vs = [.ref x] ∧ T = 167 ∧ most = 100000))
    (q : ∀ A' H' D' v, SolAt H' x A' D' → Ext A H A' H' → D'.n = D.n → Base M D' (N + 40) → Ans M As D' most v → Q v H') : CA a A₀ L m (.ref 173) vs H Q := by
  refine c_def3b (v := .ref x) (w := .ref T) (u := vi most) (p := Str.ofString "self") (q := Str.ofString "assumptions") (r := Str.ofString "most") (at_solve _) (cd_solve _) hR (fun s vs' X hv' => ?_) (by decide) (by decide) (fun L' A' R' => ?_)
  · rcases hv with rfl | ⟨rfl, rfl, rfl⟩
    · obtain ⟨u1, u2, u3, rfl⟩ : ∃ a1 a2 a3, vs' = [a1, a2, a3] := by rcases vs' with _ | ⟨u, _ | ⟨z, _ | ⟨y, _ | ⟨y2, r⟩⟩⟩⟩ <;> simp at hv'; exact ⟨_, _, _, rfl⟩
      simp only [List.map_cons, List.map_nil, List.cons.injEq, and_true] at hv'
      exact ⟨[(Str.ofString "self", u1), (Str.ofString "assumptions", u2), (Str.ofString "most", u3)], binds_K X rfl (at_dflt _) rfl rfl rfl, by simp only [List.map_cons, List.map_nil, hv'.1, hv'.2.1, hv'.2.2]⟩
    · obtain ⟨u1, rfl⟩ : ∃ a1, vs' = [a1] := by rcases vs' with _ | ⟨u, _ | ⟨z, r⟩⟩ <;> simp at hv'; exact ⟨_, rfl⟩
      simp only [List.map_cons, List.map_nil, List.cons.injEq, and_true] at hv'
      exact ⟨[(Str.ofString "self", u1), (Str.ofString "assumptions", .ref 167), (Str.ofString "most", .int 100000 406)], binds_K X rfl (at_dflt _) rfl rfl rfl, by simp only [List.map_cons, List.map_nil, hv']; rfl⟩
  have k0 : ∃ D₁ : Dat, D₁ = D := ⟨_, rfl⟩
  walk_at "xs"
  have start : Dead M D.n (N + 40) D ∨ Live M As D.n N D 0 := by
    rcases B.live As with ⟨_, V⟩ | ⟨_, V⟩
    · exact .inl ⟨V.kp, V.ref, V.no, by have := V.nl; (first | lia | omega)⟩
    · exact .inr V
  refine s_while (fun j m₁ H₁ => ∃ A₁ D₁ c, j = mu D₁ ∧ SI a M As D.n N most x T A H c m₁ H₁ A₁ D₁) (mu D) ⟨A, D, 0, rfl, by walk_at "loc", by walk_at "loc", by walk_at "loc", by show _ = some (vi 0); walk_at "loc", by show _ = some (vi 0); walk_at "loc", by walk_at "loc", h, Ext.refl _ _, start⟩ ?_
  rintro j m₁ H₁ ⟨A₁, D₁, c, rfl, I⟩
  have h₁ := I.sol
  have hm1 := I.self
  have hm2 := I.asm
  have hm3 := I.most
  have hm4 := I.con
  have hm5 := I.sin
  have hm6 := I.turn
  walk_at "xs"
  refine ite_b (fun hr => ?_) (fun hr => ?_)
  · rcases I.st with V | V
    · exfalso; rw [V.ref] at hr; cases hr
    have b₁ := V.bd hA (by (first | lia | omega))
    walk_at "xs"
    refine CA.oc (propagate_c h₁ V.good b₁ (R'.le (by (first | lia | omega))) (fun A₂ H₂ D₂ h₂ e₂ g₂ G₂ hh₂ => ?_) (fun A₂ H₂ D₂ h₀ k h₂ e₂ g₂ F₂ hh₂ => ?_))
    · obtain ⟨V₂, mu₂⟩ := V.grow g₂ G₂
      have z₂ := V₂.good.sz (V₂.bd hA (by (first | lia | omega)))
      have C₂ := V₂.good.core
      have e02 := I.ext.trans e₂
      have zv := z₂.vals
      have zn := z₂.n
      have zp := z₂.phas
      have hbl := (V₂.bd hA (by (first | lia | omega))).lims
      have htl : ∀ l ∈ D₂.trail, l.natAbs ≤ D₂.n := fun l h => (C₂.lit l h).2
      have hn2 : D₂.n = D.n := V₂.kp.n
      have hAl : ∀ l ∈ As, Lit D₂.n l := fun l h => by rw [hn2]; exact hl l h
      walk_at "xs"
      refine ite_d (fun h => absurd h (by decide)) (fun _ => ?_)
      walk_at "xs"
      refine CA.oc (luby1_c (R'.le (by (first | lia | omega))) ?_)
      walk_at "xs"
      refine ite_d (fun h => by have := V₂.c31; (first | lia | omega)) (fun _ => ?_)
      walk_at "xs"
      refine CA.oc (assumeA_c h₂ z₂ (hT.ext e02) hA (fun l h => (hAl l h).2) (R'.le (by (first | lia | omega))) fun H₃ k r h₃ e₃ hk hval hr => ?_)
      have hkl : D₂.lims.length + k ≤ 90 := by (first | lia | omega)
      have z₃ : Sz { D₂ with lims := D₂.lims ++ List.replicate k D₂.trail.length } := { z₂ with lims := by simp only [List.length_append, List.length_replicate]; (first | lia | omega) }
      have hvt : ∀ i l, D₂.lims.length ≤ i → i < D₂.lims.length + k → As[i]? = some l → l ∈ D₂.trail := fun i l h1 h2 h3 => (C₂.val_pos (hAl l (List.mem_of_getElem? h3))).mp (hval i l h1 h2 h3)
      have e03 := e02.trans e₃
      have lvB : ∀ (fd : List Bool), fd.length = D₂.n + 1 → Base M (({ D₂ with lims := D₂.lims ++ List.replicate k D₂.trail.length, found := fd } : Dat).cancel 0) (N + 40) := fun fd hf => V₂.baseL hh₂ k hf
      have l0 : ({ D₂ with lims := D₂.lims ++ List.replicate k D₂.trail.length } : Dat).lims.getD 0 0 ≤ D₂.trail.length := (V₂.good.lims hh₂ k).l0
      walk_at "xs"
      rcases hr with ⟨rfl, hr⟩ | ⟨hr, hr1⟩
      · refine ite_n (fun h => absurd rfl h) (fun _ => ?_)
        walk_at "xs"
        refine ite_e (fun _ => ?_) (fun h => absurd rfl h)
        walk_at "xs"
        refine CA.oc (free_variable_c h₃ z₃ (R'.le (by (first | lia | omega))) fun H₄ r h₄ e₄ hz hnz => ?_)
        walk_at "xs"
        refine ite_e (fun e0 => ?_) (fun e0 => ?_)
        · walk_at "xs"
          have hzz := hz (by (first | lia | omega))
          (try dsimp only at hzz)
          refine e_comp (cells := fun _ => []) R'.handled (fun _ _ => rfl) (fun _ => rfl) rfl rfl (by decide) (newEnvOk0 rfl (by decide)) ?_
          walk_at "xs"
          refine ⟨_, _, fun C i ys H' => ys = (D₂.vals.take i).map (fun v => vb (v == 1)) ∧ H' = H₄, .list h₄.vals, by rw [List.length_map]; (try dsimp only); (first | lia | omega), fun C _ hC => ⟨⟨by simp, rfl⟩, h₄.vals, ?_⟩, ?_⟩
          · rintro i v ys mC H' hv ⟨rfl, rfl⟩ hK v' hv'
            obtain ⟨w, hw, rfl⟩ : ∃ w, D₂.vals[i]? = some w ∧ v = vi w := by
              rw [List.getElem?_map] at hv; obtain ⟨k, h1, h2⟩ := Option.map_eq_some_iff.mp hv; exact ⟨k, h1, h2.symm⟩
            walk_at "xs"
            refine jt_nil ?_
            walk_at "xs"
            exact ⟨⟨by rw [take_succ' hw, List.map_append]; rfl, rfl⟩, hK⟩
          · rintro C ys H' Dd ⟨rfl, rfl⟩ hDd
            walk_at "xs"
            intro v' x' hv hx
            refine w_found Dd (h₄.beside hDd) hx hv ?_
            rw [List.length_map, List.take_length]
            have hmm : D₂.vals.map (fun v => vb (v == 1)) = (D₂.vals.map (fun v => v == 1)).map vb := by rw [List.map_map]; rfl
            rw [hmm]
            have h₅ := (h₄.beside (c := .list ((D₂.vals.map (fun v => v == 1)).map vb)) hDd).bind_found (b := Dd) (vs := D₂.vals.map (fun v => v == 1)) (AHeap.set_same ..) (h₄.fresh_own hDd)
            have e₅ : Ext A H { A₂ with found := Dd } ((H'.set Dd (.list ((D₂.vals.map (fun v => v == 1)).map vb))).set A₂.d (.attrs (sfs { A₂ with found := Dd } { D₂ with lims := D₂.lims ++ List.replicate k D₂.trail.length }))) := by
              intro z c hz ho
              obtain ⟨g1, g2⟩ := (e03.trans e₄) z c hz ho
              have hzb : z ≠ Dd := fun e => by rw [e, hDd] at g1; cases g1
              have hzd : z ≠ A₂.d := fun e => g2 (e ▸ own_d A₂)
              exact ⟨by rw [AHeap.set_ne _ _ hzd, AHeap.set_ne _ _ hzb]; exact g1, fun o => (ownb_found o).elim g2 hzb⟩
            have hfl : (D₂.vals.map (fun v => v == 1)).length = D₂.n + 1 := by rw [List.length_map]; exact zv
            walk_at "xs"
            refine CA.oc (leave_c h₅ { z₃ with found := hfl } htl l0 (R'.le (by (first | lia | omega))) ⟨true, .inl rfl⟩ fun A₆ H₆ h₆ e₆ => ?_)
            walk_at "xs"
            obtain ⟨mM, mA⟩ := V₂.model hh₂ hk hvt hr hzz
            have c0 := cancel0_n (D := { D₂ with lims := D₂.lims ++ List.replicate k D₂.trail.length, found := D₂.vals.map (fun v => v == 1) }) l0
            refine q A₆ H₆ _ _ h₆ (e₅.trans e₆) (c0.1.trans hn2) (lvB _ hfl) (.inr (.inr ⟨rfl, _, mM, mA, fun i h1 h2 => ?_⟩))
            rw [c0.2]
            rw [c0.1] at h2
            (try dsimp only at h2 ⊢)
            have : i < D₂.vals.length := by (first | lia | omega)
            simp [List.getD, this]
        · obtain ⟨hr1, hr2⟩ := hnz (by (first | lia | omega))
          have hr3 : 1 ≤ r := by (first | lia | omega)
          (try dsimp only at hr1 hr2)
          walk_at "xs"
          refine r_phasN (fun _ _ => ⟨_, rfl⟩) h₄ (by (try dsimp only); (first | lia | omega)) (by (try dsimp only); (first | lia | omega)) ?_
          have hph := C₂.phas r hr3 hr1
          generalize hphd : D₂.phas.getD r 0 = ph at *
          refine o_mul (by (first | lia | omega)) (by (first | lia | omega)) ?_
          have hlit : Lit D₂.n ((r : Int) * ph) := by
            rcases hph with rfl | rfl <;> exact ⟨by (first | lia | omega), by (first | lia | omega)⟩
          have hv0 : valI D₂.vals ((r : Int) * ph) = 0 := by
            unfold valI
            rcases hph with rfl | rfl
            · rw [if_neg (by (first | lia | omega)), show ((r : Int) * 1).toNat = r by (first | lia | omega)]; exact hr2
            · rw [if_pos (by (first | lia | omega)), show (-((r : Int) * -1)).toNat = r by (first | lia | omega), hr2]; rfl
          obtain ⟨n1, n2⟩ := (C₂.val_zero hlit).mp hv0
          generalize (r : Int) * ph = l at *
          walk_at "xs"
          refine CA.oc (decide_c h₄ z₃ hlit.2 (by simp only [List.length_append, List.length_replicate]; (first | lia | omega)) (R'.le (by (first | lia | omega))) fun H₅ h₅ e₅ => ?_)
          obtain ⟨V₅, mu₅⟩ := V₂.decide hh₂ hk hvt hlit n1 n2 (.inr hr)
          walk_at "xs"
          exact ⟨_, Nat.lt_of_lt_of_le mu₅ mu₂, A₂, _, c, rfl, by walk_at "loc", by walk_at "loc", by walk_at "loc", by walk_at "loc", by walk_at "loc", by walk_at "loc", h₅, (e03.trans e₄).trans e₅, .inr V₅⟩
      · have hrm := List.mem_of_getElem? hr
        have hlit := hAl r hrm
        have r0 := hlit.1
        have r5 := hlit.2
        refine ite_n (fun _ => ?_) (fun h => absurd h r0)
        walk_at "xs"
        refine CA.oc (value_c h₃ (by (try dsimp only); (first | lia | omega)) (by (try dsimp only); (first | lia | omega)) (R'.le (by (first | lia | omega))) ?_)
        walk_at "xs"
        refine ite_d (fun hneg => ?_) (fun hneg => ?_)
        · walk_at "xs"
          have hmem := (C₂.val_neg hlit).mp hneg
          have hle : D₂.lims.length ≤ As.length := by have := get?_lt hr; (first | lia | omega)
          refine CA.oc (leave_c h₃ z₃ htl l0 (R'.le (by (first | lia | omega))) ⟨false, .inl rfl⟩ fun A₄ H₄ h₄ e₄ => ?_)
          walk_at "xs"
          exact q A₄ H₄ _ _ h₄ (e03.trans e₄) ((cancel0_n l0).1.trans hn2) (lvB _ V₂.kp.found) (.inr (.inl ⟨rfl, V₂.refused hrm hle hmem r0⟩))
        · walk_at "xs"
          refine ite_e (fun h => absurd h r0) (fun _ => ?_)
          walk_at "xs"
          have hv0 : valI D₂.vals r = 0 := by
            have := C₂.val hlit
            split at this
            · exact absurd this hr1
            · split at this
              · (first | lia | omega)
              · exact this
          obtain ⟨n1, n2⟩ := (C₂.val_zero hlit).mp hv0
          refine CA.oc (decide_c h₃ z₃ hlit.2 (by simp only [List.length_append, List.length_replicate]; (first | lia | omega)) (R'.le (by (first | lia | omega))) fun H₅ h₅ e₅ => ?_)
          obtain ⟨V₅, mu₅⟩ := V₂.decide hh₂ hk hvt hlit n1 n2 (.inl hr)
          walk_at "xs"
          exact ⟨_, Nat.lt_of_lt_of_le mu₅ mu₂, A₂, _, c, rfl, by walk_at "loc", by walk_at "loc", by walk_at "loc", by walk_at "loc", by walk_at "loc", by walk_at "loc", h₅, e03.trans e₅, .inr V₅⟩
    · have b₂ := b₁.grow g₂
      have z₂ := F₂.sz b₂
      have C₂ := F₂.core
      have e02 := I.ext.trans e₂
      have zn := z₂.n
      have zl := b₂.lims
      have hc31 := V.c31
      obtain ⟨cc, f₀, hk₀, hf₀, ht₀, hneg₀⟩ := F₂.cl
      walk_at "xs"
      refine ite_d (fun _ => ?_) (fun h => absurd (by (first | lia | omega)) h)
      walk_at "xs"
      refine CA.oc (level_c h₂ (by (first | lia | omega)) (R'.le (by (first | lia | omega))) ?_)
      walk_at "xs"
      refine ite_e (fun e0 => ?_) (fun e0 => ?_)
      · walk_at "xs"
        refine CA.oc (refute_c h₂ z₂ (R'.le (by (first | lia | omega))) fun A₃ H₃ h₃ e₃ => ?_)
        obtain ⟨V₃, mu₃⟩ := V.refute g₂ F₂ (List.length_eq_zero_iff.mp (by (first | lia | omega)))
        walk_at "xs"
        exact ⟨_, mu₃, A₃, _, c, rfl, by walk_at "loc", by walk_at "loc", by walk_at "loc", by walk_at "loc", by walk_at "loc", by walk_at "loc", h₃, e02.trans e₃, .inl V₃⟩
      · have h0 : 0 < D₂.lims.length := by (first | lia | omega)
        walk_at "xs"
        refine s_assign_tuple2 R'.handled rfl rfl rfl ?_
        walk_at "xs"
        refine CA.oc (analyze_c h₂ C₂ z₂ hk₀ hneg₀ hf₀ ht₀ F₂.lh h0 (R'.le (by (first | lia | omega))) fun H₃ T₃ C₃ fst rest back acts' step' h₃ hac e₃ hT₃ hC₃ hco hcf l => ?_)
        refine ⟨T₃, .ref C₃, vn back, rfl, hT₃, fun v₁ v₂ hv₁ hv₂ => ?_⟩
        walk_at "xs"
        have hpm : ∃ p, D₂.lims[back]? = some p := ⟨_, List.getElem?_eq_getElem l.lt⟩
        obtain ⟨p, hp⟩ := hpm
        have hpl : p < D₂.trail.length := Nat.lt_of_le_of_lt (F₂.lh p (List.mem_of_getElem? hp)) hh₂
        have htl : ∀ l ∈ D₂.trail, l.natAbs ≤ D₂.n := fun l h => (C₂.lit l h).2
        have F₃ := F₂.step acts' step'
        have z₃ : Sz { D₂ with acts := acts', step := step' } := { z₂ with acts := by (try dsimp only); rw [hac]; exact z₂.acts }
        refine CA.oc (cancel_c (lvl := back) h₃ z₃ htl (by (try dsimp only); rw [get?_getD hp]; (first | lia | omega)) (R'.le (by (first | lia | omega))) fun A₄ H₄ h₄ e₄ => ?_)
        have G₄ := Good.cancel F₃.core F₃.wl F₃.wat F₃.ws hp (F₂.lh p (List.mem_of_getElem? hp)) (Nat.le_of_lt hpl)
        have cs := cancel_same (D := { D₂ with acts := acts', step := step' }) hp (Nat.le_of_lt hpl)
        have hln : D₂.learned.length ≤ N + c := by have := V.nl; rw [← g₂.learned] at this; exact this
        have b₄ : Bd (({ D₂ with acts := acts', step := step' } : Dat).cancel back) := ⟨by rw [cs.lims, List.length_take]; (try dsimp only); (first | lia | omega), by rw [cs.cls]; exact b₂.cls, by rw [cs.learned]; exact b₂.learned, by rw [cs.found, cs.n]; exact b₂.found, by rw [cs.acts, cs.n]; (try dsimp only); rw [hac]; exact b₂.acts⟩
        have z₄ := G₄.sz b₄
        have hcl : (fst :: rest).length ≤ 5 := by have := lit_len l.lit l.nd; (first | lia | omega)
        obtain ⟨hC₄, hco₄⟩ := e₄ C₃ _ hC₃ hco
        have hn4 := cs.n
        walk_at "xs"
        have hln4 : (({ D₂ with acts := acts', step := step' } : Dat).cancel back).learned.length < 2000 := by rw [cs.learned]; (try dsimp only); (first | lia | omega)
        have hlit4 : ∀ y ∈ fst :: rest, y.natAbs ≤ (({ D₂ with acts := acts', step := step' } : Dat).cancel back).n := fun y hy => by rw [hn4]; exact (l.lit y hy).2
        have hcl' : 1 ≤ (fst :: rest).length ∧ (fst :: rest).length ≤ 100 := ⟨by simp, by (first | lia | omega)⟩
        refine CA.oc (learn_c (c := fst :: rest) h₄ z₄ hln4 hC₄ hco₄ hcl' hlit4 (R'.le (by (first | lia | omega))) fun A₅ H₅ h₅ e₅ => ?_)
        have hlearn : ∃ D₅, D₅ = (({ D₂ with acts := acts', step := step' } : Dat).cancel back).learn (fst :: rest) := ⟨_, rfl⟩
        obtain ⟨D₅, hD₅⟩ := hlearn
        rw [← hD₅] at h₅
        have e05 : Ext A H A₅ H₅ := e02.trans (Ext.ofX (e₃.trans e₄) e₅ (fun b hb => hb ▸ hcf))
        walk_at "xs"
        refine o_div (by decide) (by decide) ?_
        walk_at "xs"
        intro v' x' hv' hx'
        refine w_step _ h₅ hx' hv' ?_
        have h₆ := h₅.set_dict D₅.n (D₅.step + D₅.step.fdiv 16 + 1) D₅.head D₅.refuted
        obtain ⟨V₅, mu₅⟩ := V.conflict (step' := step') (step'' := D₅.step + D₅.step.fdiv 16 + 1) g₂ F₂ hh₂ hac l hD₅
        have e06 := e05.trans (Ext.set (c := .attrs (sfs A₅ { D₅ with n := D₅.n, step := D₅.step + D₅.step.fdiv 16 + 1, head := D₅.head, refuted := D₅.refuted })) (own_d A₅))
        have b₅ := V₅.bd hA (by (first | lia | omega))
        have z₅ := V₅.good.sz b₅
        have l0 := V₅.good.l0
        have htl₅ : ∀ l ∈ D₅.trail, l.natAbs ≤ D₅.n := fun l h => (V₅.good.core.lit l h).2
        have hc5 := V₅.c31
        walk_at "xs"
        refine ite_d (fun hmo => ?_) (fun hmo => ?_)
        · walk_at "xs"
          refine CA.oc (leave_c h₆ z₅ htl₅ l0 (R'.le (by (first | lia | omega))) ⟨false, .inr rfl⟩ fun A₇ H₇ h₇ e₇ => ?_)
          walk_at "xs"
          exact q A₇ H₇ _ _ h₇ (e06.trans e₇) ((cancel0_n l0).1.trans V₅.kp.n) (V₅.base (by (first | lia | omega))) (.inl ⟨rfl, by (first | lia | omega)⟩)
        · walk_at "xs"
          exact ⟨_, mu₅, A₅, _, c + 1, rfl, by walk_at "loc", by walk_at "loc", by walk_at "loc", by rw [vn_succ2]; walk_at "loc", by rw [vn_succ2]; walk_at "loc", by walk_at "loc", h₆, e06, .inr V₅⟩
  · rcases I.st with V | V
    · walk_at "xs"
      exact q A₁ H₁ D₁ _ h₁ I.ext V.kp.n (V.base B.n1 B.n5) (.inr (.inl ⟨rfl, fun σ hσ => absurd hσ (V.no σ)⟩))
    · exfalso; rw [V.ref] at hr; cases hr
end
end
-- W15
section
set_option compiler.extract_closed false
/-- an object under way: x its object, d its dict, the further cells made -/
structure Ini (H₀ : AHeap) (x d : Addr) (Hn : AHeap) (fs : List (Str × Value)) (k : Nat) (cs : List (Addr × Cell)) : Prop where
  inst : Hn x = some (.inst 190 d)
  dict : Hn d = some (.attrs fs)
  flen : fs.length ≤ k
  cell : ∀ p ∈ cs, Hn p.1 = some p.2 ∧ H₀ p.1 = none
  nd : (cs.map (·.1)).Nodup
  no : ∀ p ∈ cs, p.1 ≠ x ∧ p.1 ≠ d
  keep : ∀ b c, H₀ b = some c → Hn b = some c
  xd : H₀ x = none ∧ H₀ d = none
namespace Ini
variable {H₀ Hn : AHeap} {x d : Addr} {fs : List (Str × Value)} {k : Nat} {cs : List (Addr × Cell)}
theorem start (hx : H₀ x = none) (hd : H₀ d = none) (hxd : x ≠ d) : Ini H₀ x d ((H₀.set d (.attrs [])).set x (.inst 190 d)) [] 0 [] where
  inst := AHeap.set_same ..
  dict := by rw [AHeap.set_ne _ _ (Ne.symm hxd), AHeap.set_same]
  flen := by simp
  cell := fun p h => by cases h
  nd := by simp
  no := fun p h => by cases h
  keep := fun b c h => by rw [AHeap.set_ne _ _ (fun e => by rw [e, hx] at h; cases h), AHeap.set_ne _ _ (fun e => by rw [e, hd] at h; cases h)]; exact h
  xd := ⟨hx, hd⟩
theorem alloc (I : Ini H₀ x d Hn fs k cs) {D : Addr} {c : Cell} (hD : Hn D = none) : Ini H₀ x d (Hn.set D c) fs k ((D, c) :: cs) := by
  have n0 : H₀ D = none := by
    cases z : H₀ D with
    | none => rfl
    | some c => rw [I.keep _ _ z] at hD; cases hD
  have nx : x ≠ D := fun e => by rw [← e, I.inst] at hD; cases hD
  have nd' : d ≠ D := fun e => by rw [← e, I.dict] at hD; cases hD
  have nc : ∀ p ∈ cs, p.1 ≠ D := fun p hp e => by rw [← e, (I.cell p hp).1] at hD; cases hD
  refine ⟨(AHeap.set_ne _ _ nx).trans I.inst, (AHeap.set_ne _ _ nd').trans I.dict, I.flen, fun p hp => ?_, ?_, fun p hp => ?_, fun b c h => ?_, I.xd⟩
  · rcases List.mem_cons.mp hp with e | e
    · rw [e]; exact ⟨AHeap.set_same .., n0⟩
    · exact ⟨(AHeap.set_ne _ _ (nc p e)).trans (I.cell p e).1, (I.cell p e).2⟩
  · rw [List.map_cons, List.nodup_cons]
    refine ⟨fun h => ?_, I.nd⟩
    obtain ⟨p, hp, e⟩ := List.mem_map.mp h
    exact nc p hp e
  · rcases List.mem_cons.mp hp with e | e
    · rw [e]; exact ⟨Ne.symm nx, Ne.symm nd'⟩
    · exact I.no p e
  · exact (AHeap.set_ne _ _ (fun e => by rw [e, n0] at h; cases h)).trans (I.keep b c h)
theorem store (I : Ini H₀ x d Hn fs k cs) (name : Str) (v : Value) : Ini H₀ x d (Hn.set d (.attrs (putF name v fs))) (putF name v fs) (k + 1) cs := by
  have hxd : x ≠ d := fun e => by have := I.inst; rw [e, I.dict] at this; cases this
  refine ⟨(AHeap.set_ne _ _ hxd).trans I.inst, AHeap.set_same .., by have := putF_length name v fs; have := I.flen; (first | lia | omega), fun p hp => ⟨(AHeap.set_ne _ _ (I.no p hp).2).trans (I.cell p hp).1, (I.cell p hp).2⟩, I.nd, I.no, fun b c h => ?_, I.xd⟩
  exact (AHeap.set_ne _ _ (fun e => by rw [e, I.xd.2] at h; cases h)).trans (I.keep b c h)
theorem perm (I : Ini H₀ x d Hn fs k cs) {cs' : List (Addr × Cell)} (h : cs'.Perm cs) : Ini H₀ x d Hn fs k cs' :=
  ⟨I.inst, I.dict, I.flen, fun p hp => I.cell p (h.mem_iff.mp hp), (h.map _).nodup_iff.mpr I.nd, fun p hp => I.no p (h.mem_iff.mp hp), I.keep, I.xd⟩
theorem sub (I : Ini H₀ x d Hn fs k cs) {cs' : List (Addr × Cell)} (h : cs'.Sublist cs) : Ini H₀ x d Hn fs k cs' :=
  ⟨I.inst, I.dict, I.flen, fun p hp => I.cell p (h.subset hp), List.Nodup.sublist (h.map _) I.nd, fun p hp => I.no p (h.subset hp), I.keep, I.xd⟩
theorem drop2 {p q : Addr × Cell} (I : Ini H₀ x d Hn fs k (p :: q :: cs)) : Ini H₀ x d Hn fs k (p :: cs) := I.sub (List.Sublist.cons_cons _ (List.sublist_cons_self ..))
end Ini
def D0 (n : Nat) : Dat := { n := n, vals := List.replicate (n + 1) 0, levs := List.replicate (n + 1) 0, reas := List.replicate (n + 1) (-1), phas := List.replicate (n + 1) (-1), acts := List.replicate (n + 1) 0, step := 1, cls := [], wat := List.replicate (2 * n + 2) [], trail := [], lims := [], head := 0, learned := [], refuted := false, found := List.replicate (n + 1) false }
theorem rep_map {α : Type} (f : α → Value) (k : Nat) (v : α) : (List.replicate k v).map f = List.replicate k (f v) := List.map_replicate
theorem rep_cell {H : AHeap} {l : Addr} {α : Type} {f : α → Value} {k : Nat} {v : α} (h : H l = some (.list (List.replicate k (f v)))) : H l = some (.list ((List.replicate k v).map f)) := by rw [List.map_replicate]; exact h
def rho (l : List Addr) (b : Addr) : Nat := if l.idxOf b < 11 then l.idxOf b + 1 else 13 + 2 * (l.idxOf b - 11)
def A0 (d Dc Dw Dv Dl Dr Dp Da Dt Dm Dn Df : Addr) (row : List Addr) : Ad := { d := d, cls := Dc, wat := Dw, vals := Dv, levs := Dl, reas := Dr, phas := Dp, acts := Da, trail := Dt, lims := Dm, learned := Dn, found := Df, cl := [], row := row, lrn := [] }
theorem Ini.sol {H₀ Hn : AHeap} {x d Dc Dw Dv Dl Dr Dp Da Dt Dm Dn Df Rg : Addr} {row : List Addr} {k n : Nat} {rc : Cell} (I : Ini H₀ x d Hn (sfs (A0 d Dc Dw Dv Dl Dr Dp Da Dt Dm Dn Df row) (D0 n)) k
    ((Df, .list (List.replicate (n + 1) (vb false))) :: (Dn, .list []) :: (Dm, .list []) :: (Dt, .list []) :: (Da, .list (List.replicate (n + 1) (vi 0))) :: (Dp, .list (List.replicate (n + 1) (vi (-1)))) :: (Dr, .list (List.replicate (n + 1) (vi (-1)))) :: (Dl, .list (List.replicate (n + 1) (vi 0))) ::
      (Dv, .list (List.replicate (n + 1) (vi 0))) :: (Dw, .list (row.map Value.ref)) :: (row.map (fun r => (r, Cell.list [])) ++ [(Rg, rc), (Dc, .list [])]))) (hr : row.length = 2 * n + 2) :
    SolAt Hn x (A0 d Dc Dw Dv Dl Dr Dp Da Dt Dm Dn Df row) (D0 n) ∧ ∀ b c, H₀ b = some c → Hn b = some c ∧ ¬ Own (A0 d Dc Dw Dv Dl Dr Dp Da Dt Dm Dn Df row) b := by
  have cell := I.cell
  have nd := I.nd
  have mrow : ∀ p, p ∈ (row.map (fun r => (r, Cell.list [])) ++ [(Rg, rc), (Dc, .list [])]) → Hn p.1 = some p.2 ∧ H₀ p.1 = none := fun p hp => cell p (.tail _ (.tail _ (.tail _ (.tail _ (.tail _ (.tail _ (.tail _ (.tail _ (.tail _ (.tail _ hp))))))))))
  have hrow : ∀ r ∈ row, Hn r = some (.list []) ∧ H₀ r = none := fun r h => mrow (r, .list []) (List.mem_append_left _ (List.mem_map_of_mem h))
  have hDc := mrow (Dc, .list []) (List.mem_append_right _ (.tail _ (.head _)))
  have nd2 : ([Dc, Dw, Dv, Dl, Dr, Dp, Da, Dt, Dm, Dn, Df] ++ row).Nodup := by
    have e : (([Df, Dn, Dm, Dt, Da, Dp, Dr, Dl, Dv, Dw] ++ row) ++ [Dc]).Nodup := by
      refine List.Nodup.sublist ?_ nd
      simp only [List.map_cons, List.map_append, List.map_map, List.map_nil]
      rw [show ((fun r : Addr × Cell => r.1) ∘ fun r => (r, Cell.list [])) = id from rfl, List.map_id]
      simp only [List.cons_append, List.nil_append]
      repeat refine List.Sublist.cons_cons _ ?_
      exact List.Sublist.append (List.Sublist.refl _) (List.sublist_cons_self ..)
    refine (List.Perm.nodup_iff ?_).mp e
    refine (List.perm_append_comm).trans ?_
    show (Dc :: ([Df, Dn, Dm, Dt, Da, Dp, Dr, Dl, Dv, Dw] ++ row)).Perm (Dc :: ([Dw, Dv, Dl, Dr, Dp, Da, Dt, Dm, Dn, Df] ++ row))
    exact (List.Perm.append_right row (List.reverse_perm [Dw, Dv, Dl, Dr, Dp, Da, Dt, Dm, Dn, Df])).cons Dc
  have hidx : ∀ (i : Nat) (b : Addr), ([Dc, Dw, Dv, Dl, Dr, Dp, Da, Dt, Dm, Dn, Df] ++ row)[i]? = some b → ([Dc, Dw, Dv, Dl, Dr, Dp, Da, Dt, Dm, Dn, Df] ++ row).idxOf b = i := fun i b h => by
    have hm := List.mem_of_getElem? h
    have hlt := List.idxOf_lt_length_iff.mpr hm
    refine nodup_idx nd2 (v := b) ?_ h
    rw [List.getElem?_eq_getElem hlt, List.getElem_idxOf]
  refine ⟨{ inst := I.inst, dict := I.dict, vals := ?_, levs := ?_, reas := ?_, phas := ?_, acts := ?_, trail := ?_, lims := ?_, cls := ?_, cl := ?_, cllen := rfl, wat := ?_, row := ?_, rowlen := ?_, learned := ?_, lrn := ?_, lrnlen := rfl, found := ?_, role := ?_ }, fun b c h => ⟨I.keep b c h, fun o => ?_⟩⟩
  · exact rep_cell (cell (Dv, _) (List.mem_of_getElem? (i := 8) rfl)).1
  · exact rep_cell (cell (Dl, _) (List.mem_of_getElem? (i := 7) rfl)).1
  · exact rep_cell (cell (Dr, _) (List.mem_of_getElem? (i := 6) rfl)).1
  · exact rep_cell (cell (Dp, _) (List.mem_of_getElem? (i := 5) rfl)).1
  · exact rep_cell (cell (Da, _) (List.mem_of_getElem? (i := 4) rfl)).1
  · exact (cell (Dt, .list []) (List.mem_of_getElem? (i := 3) rfl)).1
  · exact (cell (Dm, .list []) (List.mem_of_getElem? (i := 2) rfl)).1
  · exact hDc.1
  · intro i l c h; simp [A0] at h
  · exact (cell (Dw, .list (row.map Value.ref)) (List.mem_of_getElem? (i := 9) rfl)).1
  · intro i l r h h2
    simp only [A0] at h
    have hr' := List.mem_of_getElem? h2
    simp only [D0] at hr'
    rw [List.eq_of_mem_replicate hr']
    exact (hrow l (List.mem_of_getElem? h)).1
  · simp [A0, D0, hr]
  · exact (cell (Dn, .list []) (List.mem_of_getElem? (i := 1) rfl)).1
  · intro i l c h; simp [A0] at h
  · exact rep_cell (cell (Df, _) (List.mem_of_getElem? (i := 0) rfl)).1
  · refine ⟨rho ([Dc, Dw, Dv, Dl, Dr, Dp, Da, Dt, Dm, Dn, Df] ++ row), ?_, ?_, ?_, ?_, ?_, ?_, ?_, ?_, ?_, ?_, ?_, ?_, ?_⟩
    · show rho _ Dc = _; rw [rho, hidx 0 Dc rfl]; rfl
    · show rho _ Dw = _; rw [rho, hidx 1 Dw rfl]; rfl
    · show rho _ Dv = _; rw [rho, hidx 2 Dv rfl]; rfl
    · show rho _ Dl = _; rw [rho, hidx 3 Dl rfl]; rfl
    · show rho _ Dr = _; rw [rho, hidx 4 Dr rfl]; rfl
    · show rho _ Dp = _; rw [rho, hidx 5 Dp rfl]; rfl
    · show rho _ Da = _; rw [rho, hidx 6 Da rfl]; rfl
    · show rho _ Dt = _; rw [rho, hidx 7 Dt rfl]; rfl
    · show rho _ Dm = _; rw [rho, hidx 8 Dm rfl]; rfl
    · show rho _ Dn = _; rw [rho, hidx 9 Dn rfl]; rfl
    · show rho _ Df = _; rw [rho, hidx 10 Df rfl]; rfl
    · intro i l h; simp [A0] at h
    · intro i l h
      simp only [A0] at h
      rw [rho, hidx (11 + i) l (by rw [List.getElem?_append_right (by simp)]; simpa using h), if_neg (by (first | lia | omega))]
      (first | lia | omega)
  · have none_of : ∀ z, H₀ z = none → z ≠ b := fun z hz e => by rw [e, h] at hz; cases hz
    simp only [Own, A0] at o
    rcases o with e | e | e | e | e | e | e | e | e | e | e | e | e | e
    · exact none_of d I.xd.2 e.symm
    · exact none_of Dc hDc.2 e.symm
    · exact none_of Dw (cell (Dw, .list (row.map Value.ref)) (List.mem_of_getElem? (i := 9) rfl)).2 e.symm
    · exact none_of Dv (cell (Dv, .list (List.replicate (n + 1) (vi 0))) (List.mem_of_getElem? (i := 8) rfl)).2 e.symm
    · exact none_of Dl (cell (Dl, .list (List.replicate (n + 1) (vi 0))) (List.mem_of_getElem? (i := 7) rfl)).2 e.symm
    · exact none_of Dr (cell (Dr, .list (List.replicate (n + 1) (vi (-1)))) (List.mem_of_getElem? (i := 6) rfl)).2 e.symm
    · exact none_of Dp (cell (Dp, .list (List.replicate (n + 1) (vi (-1)))) (List.mem_of_getElem? (i := 5) rfl)).2 e.symm
    · exact none_of Da (cell (Da, .list (List.replicate (n + 1) (vi 0))) (List.mem_of_getElem? (i := 4) rfl)).2 e.symm
    · exact none_of Dt (cell (Dt, .list []) (List.mem_of_getElem? (i := 3) rfl)).2 e.symm
    · exact none_of Dm (cell (Dm, .list []) (List.mem_of_getElem? (i := 2) rfl)).2 e.symm
    · exact none_of Dn (cell (Dn, .list []) (List.mem_of_getElem? (i := 1) rfl)).2 e.symm
    · exact none_of Df (cell (Df, .list (List.replicate (n + 1) (vb false))) (List.mem_of_getElem? (i := 0) rfl)).2 e.symm
    · cases e
    · exact none_of b (hrow b e).2 rfl
section
variable {a : Amb hd.heap_39} {A₀ : Around} {L : Addr} {m : Loc} {H : AHeap} {Q : Value → AHeap → Prop} {x d : Addr}
theorem set_i {H₀ : AHeap} {fs : List (Str × Value)} {k : Nat} {cs : List (Addr × Cell)} {name : Str} {o v v' : Value} {QU : Loc → AHeap → Prop} (f : StoreOk (hd.heap_39 a.w.params) 190 name) (I : Ini H₀ x d H fs k cs) (hk : k < 500) (ho : er o = .ref x) (hv : er v = v')
    (q : ∀ H', Ini H₀ x d H' (putF name v' fs) (k + 1) cs → QU m H') : JU a A₀ L m (setAttr o name v) H QU :=
  u_setAttr f I.inst I.dict (by have := I.flen; (first | lia | omega)) ho hv (q _ (I.store name v'))
theorem init_c {H₀ : AHeap} {n : Nat} (I : Ini H₀ x d H [] 0 []) (hn : n ≤ 5) (hR : Rm A₀ 1)
    (q : ∀ A H', SolAt H' x A (D0 n) → (∀ b c, H₀ b = some c → H' b = some c ∧ ¬ Own A b) → Q .none H') : CA a A₀ L m (.ref 47) [.ref x, vn n] H Q := by
  refine c_def2 (p := Str.ofString "self") (q := Str.ofString "count") (at_init _) (cd_init _) hR (fun _ _ => by with_unfolding_all rfl) (by decide) (by decide) (fun L' A' R' => ?_)
  walk_at "xs"
  intro v' x' hv hx
  refine set_i (t_count _) I (by decide) hx hv fun H₁ I₁ => ?_
  walk_at "xs"
  refine ⟨by simp, fun Dc hDc => ?_⟩
  have I₂ := I₁.alloc (c := .list []) hDc
  generalize H₁.set Dc (.list []) = H₂ at *
  walk_at "xs"
  intro v' x' hv hx
  refine set_i (t_clauses _) I₂ (by decide) hx hv fun H₃ I₃ => ?_
  walk_at "xs"
  refine e_comp (cells := fun _ => []) R'.handled (fun _ _ => rfl) (fun _ => rfl) rfl rfl (by decide) (newEnvOk0 rfl (by decide)) ?_
  walk_at "xs"
  refine c_range1 fun Rg hRg => ?_
  have I₄ := I₃.alloc (c := .range 0 (2 * (n : Int) + 2)) hRg
  have hrg := AHeap.set_same H₃ Rg (.range 0 (2 * (n : Int) + 2))
  generalize H₃.set Rg (.range 0 (2 * (n : Int) + 2)) = H₄ at *
  refine ⟨_, _, fun C i ys H' => ∃ row : List Addr, row.length = i ∧ ys = row.map .ref ∧ Ini H₀ x d H' (putF (Str.ofString "clauses") (.ref Dc) (putF (Str.ofString "count") (vn n) [])) 2 (row.map (fun r => (r, Cell.list [])) ++ [(Rg, .range 0 (2 * (n : Int) + 2)), (Dc, .list [])]), .range hrg (natAbs_small (by (first | lia | omega)) (by (first | lia | omega))) (natAbs_small (by (first | lia | omega)) (by (first | lia | omega))), by rw [rangeV_length]; (first | lia | omega), fun C _ hC => ⟨⟨[], rfl, rfl, by show Ini H₀ x d H₄ _ 2 ([] ++ _); exact I₄⟩, trivial, ?_⟩, ?_⟩
  · rintro i v ys mC H' hv ⟨row, hrl, rfl, I'⟩ hK v' hv'
    obtain ⟨rfl, hi⟩ := rangeV_inv hv
    walk_at "xs"
    refine jt_nil ?_
    walk_at "xs"
    refine ⟨by simp, fun E hE => ⟨⟨row ++ [E], by simp [hrl], by simp, ?_⟩, trivial⟩⟩
    refine (I'.alloc (c := .list []) hE).perm ?_
    rw [List.map_append, List.append_assoc]
    exact List.perm_middle
  rintro C ys H₅ Dw ⟨row, hrl, rfl, I₅⟩ hDw
  rw [rangeV_length] at hrl
  have hrl' : row.length = 2 * n + 2 := by (first | lia | omega)
  have I₆ := I₅.alloc (c := .list (row.map .ref)) hDw
  generalize H₅.set Dw (.list (row.map .ref)) = H₆ at *
  walk_at "xs"
  intro v' x' hv hx
  refine set_i (t_watches _) I₆ (by decide) hx hv fun H7 I7 => ?_
  walk_at "xs"
  refine ⟨by simp, fun TDv hT => ?_⟩
  have ItDv := I7.alloc (c := .list [vi 0]) hT
  have ht := AHeap.set_same H7 TDv (.list [vi 0])
  generalize H7.set TDv (.list [vi 0]) = HtDv at *
  walk_at "xs"
  refine o_mul_list1 ht (by (first | lia | omega)) (by (first | lia | omega)) fun Dv hDv => ?_
  have IvDv := (ItDv.alloc (c := .list (List.replicate ((n : Int) + 1).toNat (vi 0))) hDv).drop2
  generalize HtDv.set Dv (.list (List.replicate ((n : Int) + 1).toNat (vi 0))) = HvDv at *
  walk_at "xs"
  intro v' x' hv hx
  refine set_i (t_values _) IvDv (by decide) hx hv fun H8 I8 => ?_
  walk_at "xs"
  refine ⟨by simp, fun TDl hT => ?_⟩
  have ItDl := I8.alloc (c := .list [vi 0]) hT
  have ht := AHeap.set_same H8 TDl (.list [vi 0])
  generalize H8.set TDl (.list [vi 0]) = HtDl at *
  walk_at "xs"
  refine o_mul_list1 ht (by (first | lia | omega)) (by (first | lia | omega)) fun Dl hDl => ?_
  have IvDl := (ItDl.alloc (c := .list (List.replicate ((n : Int) + 1).toNat (vi 0))) hDl).drop2
  generalize HtDl.set Dl (.list (List.replicate ((n : Int) + 1).toNat (vi 0))) = HvDl at *
  walk_at "xs"
  intro v' x' hv hx
  refine set_i (t_levels _) IvDl (by decide) hx hv fun H9 I9 => ?_
  walk_at "xs"
  refine ⟨by simp, fun TDr hT => ?_⟩
  have ItDr := I9.alloc (c := .list [vi (-1)]) hT
  have ht := AHeap.set_same H9 TDr (.list [vi (-1)])
  generalize H9.set TDr (.list [vi (-1)]) = HtDr at *
  walk_at "xs"
  refine o_mul_list1 ht (by (first | lia | omega)) (by (first | lia | omega)) fun Dr hDr => ?_
  have IvDr := (ItDr.alloc (c := .list (List.replicate ((n : Int) + 1).toNat (vi (-1)))) hDr).drop2
  generalize HtDr.set Dr (.list (List.replicate ((n : Int) + 1).toNat (vi (-1)))) = HvDr at *
  walk_at "xs"
  intro v' x' hv hx
  refine set_i (t_reasons _) IvDr (by decide) hx hv fun H10 I10 => ?_
  walk_at "xs"
  refine ⟨by simp, fun TDp hT => ?_⟩
  have ItDp := I10.alloc (c := .list [vi (-1)]) hT
  have ht := AHeap.set_same H10 TDp (.list [vi (-1)])
  generalize H10.set TDp (.list [vi (-1)]) = HtDp at *
  walk_at "xs"
  refine o_mul_list1 ht (by (first | lia | omega)) (by (first | lia | omega)) fun Dp hDp => ?_
  have IvDp := (ItDp.alloc (c := .list (List.replicate ((n : Int) + 1).toNat (vi (-1)))) hDp).drop2
  generalize HtDp.set Dp (.list (List.replicate ((n : Int) + 1).toNat (vi (-1)))) = HvDp at *
  walk_at "xs"
  intro v' x' hv hx
  refine set_i (t_phases _) IvDp (by decide) hx hv fun H11 I11 => ?_
  walk_at "xs"
  refine ⟨by simp, fun TDa hT => ?_⟩
  have ItDa := I11.alloc (c := .list [vi 0]) hT
  have ht := AHeap.set_same H11 TDa (.list [vi 0])
  generalize H11.set TDa (.list [vi 0]) = HtDa at *
  walk_at "xs"
  refine o_mul_list1 ht (by (first | lia | omega)) (by (first | lia | omega)) fun Da hDa => ?_
  have IvDa := (ItDa.alloc (c := .list (List.replicate ((n : Int) + 1).toNat (vi 0))) hDa).drop2
  generalize HtDa.set Da (.list (List.replicate ((n : Int) + 1).toNat (vi 0))) = HvDa at *
  walk_at "xs"
  intro v' x' hv hx
  refine set_i (t_activity _) IvDa (by decide) hx hv fun H12 I12 => ?_
  walk_at "xs"
  intro v' x' hv hx
  refine set_i (t_step _) I12 (by decide) hx hv fun H13 I13 => ?_
  walk_at "xs"
  refine ⟨by simp, fun Dt hT => ?_⟩
  have IeDt := I13.alloc (c := .list []) hT
  generalize H13.set Dt (.list []) = HeDt at *
  walk_at "xs"
  intro v' x' hv hx
  refine set_i (t_trail _) IeDt (by decide) hx hv fun H14 I14 => ?_
  walk_at "xs"
  refine ⟨by simp, fun Dm hT => ?_⟩
  have IeDm := I14.alloc (c := .list []) hT
  generalize H14.set Dm (.list []) = HeDm at *
  walk_at "xs"
  intro v' x' hv hx
  refine set_i (t_limits _) IeDm (by decide) hx hv fun H15 I15 => ?_
  walk_at "xs"
  intro v' x' hv hx
  refine set_i (t_head _) I15 (by decide) hx hv fun H16 I16 => ?_
  walk_at "xs"
  refine ⟨by simp, fun Dn hT => ?_⟩
  have IeDn := I16.alloc (c := .list []) hT
  generalize H16.set Dn (.list []) = HeDn at *
  walk_at "xs"
  intro v' x' hv hx
  refine set_i (t_learned _) IeDn (by decide) hx hv fun H17 I17 => ?_
  walk_at "xs"
  intro v' x' hv hx
  refine set_i (t_refuted _) I17 (by decide) hx hv fun H18 I18 => ?_
  walk_at "xs"
  refine ⟨by simp, fun TDf hT => ?_⟩
  have ItDf := I18.alloc (c := .list [vb false]) hT
  have ht := AHeap.set_same H18 TDf (.list [vb false])
  generalize H18.set TDf (.list [vb false]) = HtDf at *
  walk_at "xs"
  refine o_mul_list1 ht (by (first | lia | omega)) (by (first | lia | omega)) fun Df hDf => ?_
  have IvDf := (ItDf.alloc (c := .list (List.replicate ((n : Int) + 1).toNat (vb false))) hDf).drop2
  generalize HtDf.set Df (.list (List.replicate ((n : Int) + 1).toNat (vb false))) = HvDf at *
  walk_at "xs"
  intro v' x' hv hx
  refine set_i (t_found _) IvDf (by decide) hx hv fun H19 I19 => ?_
  walk_at "xs"
  have It := I19
  rw [show ((n : Int) + 1).toNat = n + 1 by (first | lia | omega)] at It
  obtain ⟨hs, he⟩ := Ini.sol (n := n) It hrl'
  exact q _ _ hs he
end
end
-- W16
section
set_option compiler.extract_closed false
section
variable {KF : Params → Frag} {a : Amb KF} {A : Around} {L : Addr} {m : Loc} {H : AHeap} {env : Env} {Q : Value → AHeap → Prop}
def isB (k : Bool) : Value → Bool
  | .bool b => b == k
  | _ => false
theorem any_isB {us : List Value} {ns : List Bool} (h : us.map er = ns.map vb) (k : Bool) : us.any (isB k) = ns.any (· == k) := by
  induction us generalizing ns with
  | nil => cases ns <;> simp at h ⊢
  | cons u us ih =>
    cases ns with
    | nil => simp at h
    | cons n ns =>
      rw [List.map_cons, List.map_cons, List.cons.injEq] at h
      rw [er_bool h.1, List.any_cons, List.any_cons, ih h.2]; rfl
theorem mem_bool {us : List Value} {ns : List Bool} (h : us.map er = ns.map vb) {y : Value} (hy : y ∈ us) : ∃ b, y = .bool b := by
  have : er y ∈ ns.map vb := by rw [← h]; exact List.mem_map_of_mem hy
  obtain ⟨b, _, e⟩ := List.mem_map.mp this
  exact ⟨b, er_bool e.symm⟩
theorem o_inb {l : Addr} {ns : List Bool} {k : Bool} (h : H l = some (.list (ns.map vb))) (q : Q (vb (ns.any (· == k))) H) : O2 a A L m (compareOp .In) (vb k) (.ref l) H Q := by
  intro x' y' hx hy
  rw [er_bool hx, er_ref hy]
  intro s S
  obtain ⟨its, n, hl, e⟩ := S.list h
  refine SeqAt.in_listAt (isB k) hl.isList (fun y hy => ?_) ?_
  · obtain ⟨b, rfl⟩ := mem_bool e (Array.mem_toList_iff.mpr hy)
    exact SeqAt.EqAt.bool_bool b k
  · rw [← Array.any_toList, any_isB e]
    exact ⟨H, S, Step.refl .., q⟩
theorem o_notinb {l : Addr} {ns : List Bool} {k : Bool} (h : H l = some (.list (ns.map vb))) (q : Q (vb (!(ns.any (· == k)))) H) : O2 a A L m (compareOp .NotIn) (vb k) (.ref l) H Q := by
  intro x' y' hx hy
  rw [er_bool hx, er_ref hy]
  intro s S
  obtain ⟨its, n, hl, e⟩ := S.list h
  refine SeqAt.notIn_listAt (isB k) hl.isList (fun y hy => ?_) ?_
  · obtain ⟨b, rfl⟩ := mem_bool e (Array.mem_toList_iff.mpr hy)
    exact SeqAt.EqAt.bool_bool b k
  · rw [← Array.any_toList, any_isB e]
    exact ⟨H, S, Step.refl .., q⟩
theorem o_neb {i j : Bool} (q : Q (vb (i != j)) H) : O2 a A L m (compareOp .NotEq) (vb i) (vb j) H Q := by
  intro x' y' hx hy
  rw [er_bool hx, er_bool hy]
  exact fun s S => ne_bool ⟨H, S, Step.refl .., q⟩
theorem o_is_noneb {b : Bool} (q : Q (vb false) H) : O2 a A L m (compareOp .Is) (vb b) .none H Q := by
  intro x' y' hx hy
  rw [er_bool hx, er_none hy]
  exact fun s S => is_none_ne (fun e => by cases e) ⟨H, S, Step.refl .., q⟩
theorem o_ne_nil {l b : Addr} {vs : List Value} (hu : A.units < cLine) (h : H l = some (.list vs)) (hb : H b = some (.list [])) (q : Q (vb (!vs.isEmpty)) H) : O2 a A L m (compareOp .NotEq) (.ref l) (.ref b) H Q := by
  intro x' y' hx hy
  rw [er_ref hx, er_ref hy]
  intro s S
  obtain ⟨its, n, hl, e⟩ := S.list h
  obtain ⟨its2, n2, hl2, e2⟩ := S.list hb
  have z := size_of e
  have z2 := size_of e2
  simp only [List.length_nil] at z2
  cases hv : vs with
  | nil =>
    subst hv
    simp only [List.length_nil] at z
    have := SeqAt.RcNeAt.lists (A := A) (s := s) (e := fun _ => true) hl.isList hl2.isList (by (first | lia | omega)) hu (fun j h1 => absurd h1 (by (first | lia | omega)))
    refine this a.prog a.w _ _ ?_
    rw [z]
    exact ⟨H, S, Step.refl .., q⟩
  | cons v r =>
    rw [hv] at z q
    simp only [List.length_cons] at z
    refine (SeqAt.RcNeAt.lists_lengths (A := A) hl.isList hl2.isList (by simp; (first | lia | omega)) hu) a.prog a.w _ _ ?_
    exact ⟨H, S, Step.refl .., q⟩
theorem eqAt_bools {s : Shared} (hu : A.units < cLine) {l b : Addr} {ms ns : List Bool} (S : St a L m H s) (hl : H l = some (.list (ms.map vb))) (hb : H b = some (.list (ns.map vb))) : SeqAt.EqAt A s (.ref l) (.ref b) (decide (ms = ns)) := by
  by_cases hlb : l = b
  · subst hlb
    have : ms = ns := by
      rw [hl] at hb
      simp only [Option.some.injEq, Cell.list.injEq] at hb
      have inj : ∀ {x y : Bool}, vb x = vb y → x = y := fun h => by cases h; rfl
      exact (List.map_inj_right (fun _ _ => inj)).mp hb
    rw [decide_eq_true this]
    exact SeqAt.EqAt.same _
  · refine SeqAt.EqAt.of_refs hlb ?_
    obtain ⟨its, n, ho, e⟩ := S.list hl
    obtain ⟨its2, n2, ho2, e2⟩ := S.list hb
    have z := size_of e
    have z2 := size_of e2
    rw [List.length_map] at z z2
    by_cases hlen : its.size = its2.size
    · have item : ∀ {xs : Array Value} {ws : List Bool} (h : xs.toList.map er = ws.map vb) (j : Nat) (hj : j < xs.size), xs[j] = .bool (ws.getD j false) := by
        intro xs ws h j hj
        have hz : xs.size = ws.length := by have := size_of h; rwa [List.length_map] at this
        have h1 : (xs.toList.map er)[j]? = some (er xs[j]) := by simp [hj]
        rw [h, List.getElem?_map, List.getElem?_eq_getElem (by (first | lia | omega))] at h1
        simp only [Option.map_some, Option.some.injEq] at h1
        rw [er_bool h1.symm]
        simp [List.getD, show j < ws.length by (first | lia | omega)]
      have := SeqAt.RcAt.lists (A := A) (s := s) (e := fun j => ms.getD j false == ns.getD j false) ho.isList ho2.isList hlen hu (fun j h1 h2 => by
        rw [item e j h1, item e2 j h2]
        exact SeqAt.EqAt.bool_bool _ _)
      have heq : (List.range its.size).all (fun j => ms.getD j false == ns.getD j false) = decide (ms = ns) := by
        by_cases hm : ms = ns
        · rw [decide_eq_true hm, hm]; simp
        · rw [decide_eq_false hm, List.all_eq_false]
          apply Classical.byContradiction
          intro hno
          apply hm
          apply List.ext_getElem?
          intro j
          by_cases hj : j < its.size
          · have : ms.getD j false = ns.getD j false := by
              apply Classical.byContradiction
              intro h
              exact hno ⟨j, List.mem_range.mpr hj, by simpa using h⟩
            rw [getD_get (d := false) (by (first | lia | omega)), getD_get (d := false) (by (first | lia | omega)), this]
          · rw [List.getElem?_eq_none (by (first | lia | omega)), List.getElem?_eq_none (by (first | lia | omega))]
      rw [heq] at this
      exact this
    · have hm : ms ≠ ns := fun e => hlen (by rw [z, z2, e])
      rw [decide_eq_false hm]
      exact SeqAt.RcAt.lists_lengths ho.isList ho2.isList (by simpa using hlen) hu
theorem refs_of : ∀ {us : List Value} {rs : List Addr}, us.map er = rs.map .ref → us = rs.map .ref
  | [], [], _ => rfl
  | [], _ :: _, h => by simp at h
  | _ :: _, [], h => by simp at h
  | u :: us, r :: rs, h => by
    rw [List.map_cons, List.map_cons, List.cons.injEq] at h
    rw [er_ref h.1, List.map_cons, refs_of h.2]
/-- a list of lists of bools -/
def BLs (H : AHeap) (g : Addr) (rs : List Addr) (ms : List (List Bool)) : Prop := H g = some (.list (rs.map .ref)) ∧ rs.length = ms.length ∧ ∀ (i : Nat) (r : Addr) (b : List Bool), rs[i]? = some r → ms[i]? = some b → H r = some (.list (b.map vb))
open Classical in
theorem o_notin_lists {l g : Addr} {b : List Bool} {rs : List Addr} {ms : List (List Bool)} {d : Nat} (hR : Rm A (d + 1)) (hl : H l = some (.list (b.map vb))) (hg : BLs H g rs ms) (q : Q (vb (!(ms.contains b))) H) : O2 a A L m (compareOp .NotIn) (.ref l) (.ref g) H Q := by
  intro x' y' hx hy
  rw [er_ref hx, er_ref hy]
  intro s S
  obtain ⟨h1, h2, h3⟩ := hg
  obtain ⟨its, n, ho, e⟩ := S.list h1
  have hits : its.toList = rs.map .ref := refs_of e
  have hmem : ∀ y, y ∈ its → ∃ (i : Nat) (r : Addr) (b' : List Bool), y = .ref r ∧ rs[i]? = some r ∧ ms[i]? = some b' ∧ H r = some (.list (b'.map vb)) := fun y hy => by
    have := Array.mem_toList_iff.mpr hy
    rw [hits] at this
    obtain ⟨r, hr, rfl⟩ := List.mem_map.mp this
    obtain ⟨i, hi⟩ := List.getElem?_of_mem hr
    have hil := get?_lt hi
    exact ⟨i, r, ms[i], rfl, hi, by simp [show i < ms.length by (first | lia | omega)], h3 i r _ hi (by simp [show i < ms.length by (first | lia | omega)])⟩
  refine SeqAt.notIn_listAt (fun y => decide (∃ r, y = .ref r ∧ H r = some (.list (b.map vb)))) ho.isList (fun y hy => ?_) ?_
  · obtain ⟨i, r, b', rfl, hi, hb, hr⟩ := hmem y hy
    have hE := eqAt_bools (A := A.in1) (by exact hR.in1.units') S hr hl
    have : decide (b' = b) = decide (∃ r', Value.ref r = .ref r' ∧ H r' = some (.list (b.map vb))) := by
      congr 1
      apply propext
      constructor
      · rintro rfl; exact ⟨r, rfl, hr⟩
      · rintro ⟨r', e, h⟩
        cases e
        rw [hr] at h
        simp only [Option.some.injEq, Cell.list.injEq] at h
        have inj : ∀ {x y : Bool}, vb x = vb y → x = y := fun h => by cases h; rfl
        exact (List.map_inj_right (fun _ _ => inj)).mp h
    rw [← this]; exact hE
  · have heq : its.any (fun y => decide (∃ r, y = .ref r ∧ H r = some (.list (b.map vb)))) = ms.contains b := by
      rw [← Array.any_toList, hits, Bool.eq_iff_iff, List.any_eq_true, List.contains_iff_mem]
      constructor
      · rintro ⟨y, hy, h⟩
        obtain ⟨r, hr, rfl⟩ := List.mem_map.mp hy
        obtain ⟨r', e, h⟩ := of_decide_eq_true h
        cases e
        obtain ⟨i, hi⟩ := List.getElem?_of_mem hr
        have hil := get?_lt hi
        have := h3 i r ms[i] hi (by simp [show i < ms.length by (first | lia | omega)])
        rw [this] at h
        simp only [Option.some.injEq, Cell.list.injEq] at h
        have inj : ∀ {x y : Bool}, vb x = vb y → x = y := fun h => by cases h; rfl
        rw [← (List.map_inj_right (fun _ _ => inj)).mp h]
        exact List.getElem_mem _
      · intro h
        obtain ⟨i, hi⟩ := List.getElem?_of_mem h
        have hil := get?_lt hi
        refine ⟨.ref rs[i], List.mem_map_of_mem (List.getElem_mem (by (first | lia | omega))), decide_eq_true ⟨_, rfl, h3 i _ b (List.getElem?_eq_getElem (by (first | lia | omega))) hi⟩⟩
    rw [heq]
    exact ⟨H, S, Step.refl .., q⟩
/-- a comprehension with one cell of its own -/
theorem newEnvOk1 {scope : Scope} {cl : List (Str × Addr)} (x : Str) (hk : scope.kind = .function) (hc : ∀ n acc, cellsFrom n scope.names acc = (x, n) :: acc) (hp : ∀ h, pushCells h scope.names = h.push { cls := .type "cell", data := .cell none }) : NewEnvOk a A scope cl env (fun C => [(x, C + 1)]) := by
  intro s P h
  simp only [newFunctionEnv, Option.isSome_some, if_true]
  refine wpAny_bind (wpAny_alloc ?_)
  refine wpAny_bind (wpAny_layCells _ (fun name kind cells => by cases hkc : kind == NameKind.cell <;> simp [hkc]) _ _ _ _ ?_)
  rw [hc, hp]
  have hz : ({ s with heap := s.heap.push { cls := .type "dict", data := .dict #[] } } : Shared).heap.objs.size = s.heap.objs.size + 1 := Heap.size_push ..
  rw [hz]
  refine wpAny_bind (wpAny_mono (Q := fun _ s' => s' = { s with heap := (s.heap.push { cls := .type "dict", data := .dict #[] }).push { cls := .type "cell", data := .cell none } }) (E := fun _ _ => False) ?_ (fun _ s' e => ?_) fun _ _ x => x.elim)
  · rw [List.forIn_nil]; exact wpAny_pure rfl
  subst e
  refine wpAny_pure ?_
  have hk1 : ∀ b o, s.heap.get? b = some o → (s.heap.push { cls := .type "dict", data := .dict #[] }).get? b = some o := fun b o e => Heap.get?_push_of_some _ e
  have hk2 : ∀ b o, (s.heap.push { cls := .type "dict", data := .dict #[] }).get? b = some o → ((s.heap.push { cls := .type "dict", data := .dict #[] }).push { cls := .type "cell", data := .cell none }).get? b = some o := fun b o e => Heap.get?_push_of_some _ e
  refine h _ ((Heap.Ns.new s.heap (.type "dict")).keeps hk2) (fun b o e => hk2 b o (hk1 b o e)) (fun n c hm => ?_)
  rw [List.mem_singleton] at hm
  cases hm
  have hcell := Heap.get?_push_size (s.heap.push { cls := .type "dict", data := .dict #[] }) (o := { cls := .type "cell", data := .cell none }) rfl
  rw [Heap.size_push] at hcell
  refine ⟨⟨_, hcell, rfl⟩, ?_, Nat.succ_ne_self _⟩
  cases z : s.heap.get? (s.heap.objs.size + 1) with
  | none => rfl
  | some o => exact absurd (Heap.lt_size z) (Nat.not_lt.mpr (Nat.le_succ _))
end
end
-- W17
section
set_option compiler.extract_closed false
theorem fmod_lo {a b : Int} (hb : 0 < b) : 0 ≤ a.fmod b := Int.fmod_nonneg_of_pos a hb
theorem fmod_hi {a b : Int} (hb : 0 < b) : a.fmod b < b := Int.fmod_lt_of_pos a hb
/-- the hand that the law draws from -/
structure HandAt (H : AHeap) (h ca : Addr) (ns : List Int) : Prop where
  cells : H ca = some (.list (ns.map vi))
  hand : ∃ (i : Nat) (j k : Int), i ≤ ns.length ∧ 0 ≤ j ∧ 0 ≤ k ∧ H h = some (.list [.ref ca, vn i, vi j, vi k])
  len : ns.length ≤ 63
  ne : h ≠ ca
theorem HandAt.set {H : AHeap} {h ca : Addr} {ns : List Int} (I : HandAt H h ca ns) {i : Nat} {j k : Int} (hi : i ≤ ns.length) (hj : 0 ≤ j) (hk : 0 ≤ k) : HandAt (H.set h (.list [.ref ca, vn i, vi j, vi k])) h ca ns :=
  ⟨(AHeap.set_ne _ _ I.ne.symm).trans I.cells, ⟨i, j, k, hi, hj, hk, AHeap.set_same ..⟩, I.len, I.ne⟩
theorem HandAt.frame {H H' : AHeap} {h ca : Addr} {ns : List Int} (I : HandAt H h ca ns) (h1 : H' ca = H ca) (h2 : H' h = H h) : HandAt H' h ca ns := by
  obtain ⟨i, j, k, a, b, c, d⟩ := I.hand
  exact ⟨h1.trans I.cells, ⟨i, j, k, a, b, c, h2.trans d⟩, I.len, I.ne⟩
section
variable {a : Amb hd.heap_39} {A₀ : Around} {L : Addr} {m : Loc} {H : AHeap} {Q : Value → AHeap → Prop}
theorem pick_c {h ca : Addr} {ns : List Int} {lim : Int} (I : HandAt H h ca ns) (h0 : 0 < lim) (h1 : lim < 1000) (hR : Rm A₀ 1)
    (q : ∀ H' (r : Int), HandAt H' h ca ns → (∀ b, b ≠ h → H' b = H b) → 0 ≤ r → r < lim → Q (vi r) H') : CA a A₀ L m (.ref 201) [.ref h, vi lim] H Q := by
  refine c_def2 (p := Str.ofString "hand") (q := Str.ofString "limit") (at_law_pick _) (cd_law_pick _) hR (fun _ _ => by with_unfolding_all rfl) (by decide) (by decide) (fun L' A' R' => ?_)
  obtain ⟨i, j, k, hi, hj, hk, hh⟩ := I.hand
  have hlen := I.len
  refine s_if_join (fun m' H' => m' (Str.ofString "hand") = some (.ref h) ∧ m' (Str.ofString "limit") = some (vi lim) ∧ ∃ (i' : Nat) (j' : Int), i' ≤ ns.length ∧ 0 ≤ j' ∧ H' h = some (.list [.ref ca, vn i', vi j', vi k]) ∧ HandAt H' h ca ns ∧ ∀ b, b ≠ h → H' b = H b) ?_ ?_
  · walk_at "xs"
    refine o_item (fun _ _ => ⟨_, rfl⟩) hh (by decide) (x := vi j) rfl (by simp) ?_
    walk_at "xs"
    refine ite_e (fun e0 => ?_) (fun e0 => ?_)
    · walk_at "xs"
      refine o_item (fun _ _ => ⟨_, rfl⟩) hh (by decide) (x := vn i) rfl (by simp) ?_
      walk_at "xs"
      refine o_item (fun _ _ => ⟨_, rfl⟩) hh (by decide) (x := .ref ca) rfl (by simp) ?_
      walk_at "xs"
      refine c_len_list I.cells (by rw [List.length_map]; (first | lia | omega)) ?_
      rw [List.length_map]
      walk_at "xs"
      refine ite_e (fun e1 => ?_) (fun e1 => ?_)
      · walk_at "xs"
        refine o_item (fun _ _ => ⟨_, rfl⟩) hh (by decide) (x := vi k) rfl (by simp) ?_
        walk_at "xs"
        refine o_mul (by decide) (by decide) ?_
        walk_at "xs"
        refine o_mod (by decide) ?_
        walk_at "xs"
        intro v' x' y' hv hx hy
        refine u_setItem hx hy hh (by decide) (by simp) (by simp) ?_
        rw [hv]
        walk_at "xs"
        refine o_item (fun _ _ => ⟨_, rfl⟩) (AHeap.set_same ..) (by decide) (x := vi ((k * 48271).fmod 2147483647)) rfl (by simp) ?_
        walk_at "xs"
        refine o_div (by decide) (by decide) ?_
        walk_at "xs"
        refine o_mod (by (first | lia | omega)) ?_
        walk_at "xs"
        exact q _ _ (I.set (k := (k * 48271).fmod 2147483647) hi hj (fmod_lo (by decide))) (fun b hb => AHeap.set_ne _ _ hb) (fmod_lo h0) (fmod_hi h0)
      · walk_at "xs"
        refine o_item (fun _ _ => ⟨_, rfl⟩) hh (by decide) (x := .ref ca) rfl (by simp) ?_
        walk_at "xs"
        refine o_item (fun _ _ => ⟨_, rfl⟩) hh (by decide) (x := vn i) rfl (by simp) ?_
        refine o_itemN 0 (fun _ _ => ⟨_, rfl⟩) I.cells (by (first | lia | omega)) (by (first | lia | omega)) ?_
        generalize ns.getD i 0 = y at *
        walk_at "xs"
        refine o_item (fun _ _ => ⟨_, rfl⟩) hh (by decide) (x := vn i) rfl (by simp) ?_
        walk_at "xs"
        intro v' x' y' hv hx hy
        refine u_setItem hx hy hh (by decide) (by simp) (by simp) ?_
        rw [hv, ← vn_succ2]
        have I₁ := I.set (i := i + 1) (j := j) (k := k) (by (first | lia | omega)) hj hk
        have hh₁ := AHeap.set_same H h (.list [.ref ca, vn (i + 1), vi j, vi k])
        have f₁ : ∀ b, b ≠ h → (H.set h (.list [.ref ca, vn (i + 1), vi j, vi k])) b = H b := fun b hb => AHeap.set_ne _ _ hb
        show JS _ _ _ _ _ (H.set h (.list [.ref ca, vn (i + 1), vi j, vi k])) _
        generalize H.set h (.list [.ref ca, vn (i + 1), vi j, vi k]) = H₁ at *
        walk_at "xs"
        refine ite_d (fun e => ?_) (fun e => ?_)
        · walk_at "xs"
          intro v' x' y' hv hx hy
          refine u_setItem hx hy hh₁ (by decide) (by simp) (by simp) ?_
          rw [hv]
          walk_at "xs"
          exact ⟨by walk_at "loc", by walk_at "loc", i + 1, y, by (first | lia | omega), e, AHeap.set_same .., I₁.set (i := i + 1) (j := y) (k := k) (by (first | lia | omega)) e hk, fun b hb => (AHeap.set_ne _ _ hb).trans (f₁ b hb)⟩
        · walk_at "xs"
          intro v' x' y' hv hx hy
          refine u_setItem hx hy hh₁ (by decide) (by simp) (by simp) ?_
          rw [hv]
          walk_at "xs"
          exact ⟨by walk_at "loc", by walk_at "loc", i + 1, -y, by (first | lia | omega), by (first | lia | omega), AHeap.set_same .., I₁.set (i := i + 1) (j := -y) (k := k) (by (first | lia | omega)) (by (first | lia | omega)) hk, fun b hb => (AHeap.set_ne _ _ hb).trans (f₁ b hb)⟩
    · walk_at "xs"
      exact ⟨by walk_at "loc", by walk_at "loc", i, j, hi, hj, hh, I, fun _ _ => rfl⟩
  · rintro m' H' ⟨hm1, hm2, i', j', hi', hj', hh', I', hf⟩
    walk_at "xs"
    refine o_item (fun _ _ => ⟨_, rfl⟩) hh' (by decide) (x := vi j') rfl (by simp) ?_
    walk_at "xs"
    refine o_mod (by (first | lia | omega)) ?_
    walk_at "xs"
    refine o_item (fun _ _ => ⟨_, rfl⟩) hh' (by decide) (x := vi j') rfl (by simp) ?_
    walk_at "xs"
    refine o_div (by (first | lia | omega)) (by (first | lia | omega)) ?_
    walk_at "xs"
    intro v' x' y' hv hx hy
    refine u_setItem hx hy hh' (by decide) (by simp) (by simp) ?_
    rw [hv]
    walk_at "xs"
    exact q _ _ (I'.set (k := k) hi' (Int.fdiv_nonneg hj' (by (first | lia | omega))) hk) (fun b hb => (AHeap.set_ne _ _ hb).trans (hf b hb)) (fmod_lo h0) (fmod_hi h0)
/-- a literal of n variables -/
theorem literal_c {h ca : Addr} {ns : List Int} {n : Nat} (I : HandAt H h ca ns) (h0 : 1 ≤ n) (h1 : n ≤ 5) (hR : Rm A₀ 2)
    (q : ∀ H' (l : Int), HandAt H' h ca ns → (∀ b, b ≠ h → H' b = H b) → Lit n l → Q (vi l) H') : CA a A₀ L m (.ref 215) [.ref h, vn n] H Q := by
  refine c_def2 (p := Str.ofString "hand") (q := Str.ofString "count") (at_law_literal _) (cd_law_literal _) hR (fun _ _ => by with_unfolding_all rfl) (by decide) (by decide) (fun L' A' R' => ?_)
  walk_at "xs"
  refine CA.oc (pick_c I (by (first | lia | omega)) (by (first | lia | omega)) R' fun H₁ r I₁ f₁ r0 r1 => ?_)
  walk_at "xs"
  refine CA.oc (pick_c I₁ (by (first | lia | omega)) (by (first | lia | omega)) R' fun H₂ r₂ I₂ f₂ r2 r3 => ?_)
  have ff : ∀ b, b ≠ h → H₂ b = H b := fun b hb => (f₂ b hb).trans (f₁ b hb)
  walk_at "xs"
  refine ite_e (fun e => ?_) (fun e => ?_)
  · walk_at "xs"
    exact q H₂ _ I₂ ff ⟨by (first | lia | omega), by (first | lia | omega)⟩
  · walk_at "xs"
    exact q H₂ _ I₂ ff ⟨by (first | lia | omega), by (first | lia | omega)⟩
def litT (ms : List Bool) (l : Int) : Bool := ms.getD l.natAbs false == decide (0 < l)
theorem true_c {T B : Addr} {c : List Int} {ms : List Bool} (hT : H T = some (.tuple (c.map vi))) (hB : H B = some (.list (ms.map vb))) (hc : ∀ l ∈ c, l.natAbs < ms.length) (hz : ms.length ≤ 100) (hR : Rm A₀ 1)
    (q : Q (vb (c.any (litT ms))) H) : CA a A₀ L m (.ref 208) [.ref T, .ref B] H Q := by
  refine c_def2 (p := Str.ofString "clause") (q := Str.ofString "model") (at_law_true _) (cd_law_true _) hR (fun _ _ => by with_unfolding_all rfl) (by decide) (by decide) (fun L' A' R' => ?_)
  walk_at "xs"
  refine s_for (fun _ => rfl) (fun _ _ => rfl) R'.handled ?_
  walk_at "xs"
  refine ⟨_, _, fun i m₂ H₂ => m₂ (Str.ofString "model") = some (.ref B) ∧ H₂ = H ∧ (c.take i).any (litT ms) = false, .tuple hT, ⟨by walk_at "loc", rfl, rfl⟩, ?_, ?_⟩
  · rintro i v m₂ H₂ hv ⟨hm1, rfl, hno⟩ hKr v' hv'
    obtain ⟨l, hl, rfl⟩ : ∃ l, c[i]? = some l ∧ v = vi l := by
      rw [List.getElem?_map] at hv; obtain ⟨k, h1, h2⟩ := Option.map_eq_some_iff.mp hv; exact ⟨k, h1, h2.symm⟩
    have hll := hc l (List.mem_of_getElem? hl)
    walk_at "xs"
    refine o_itemN false (fun _ _ => ⟨_, rfl⟩) hB (by (first | lia | omega)) (by (first | lia | omega)) ?_
    walk_at "xs"
    refine ite_b (fun hb => ?_) (fun hb => ?_)
    · walk_at "xs"
      have : c.any (litT ms) = true := List.any_eq_true.mpr ⟨l, List.mem_of_getElem? hl, hb⟩
      rw [this] at q; exact q
    · walk_at "xs"
      refine ⟨⟨by walk_at "loc", rfl, ?_⟩, hKr⟩
      rw [take_succ' hl, List.any_append, hno]
      simp only [List.any_cons, List.any_nil, Bool.or_false, Bool.false_or]
      exact hb
  · rintro m₂ H₂ ⟨hm1, rfl, hno⟩
    walk_at "xs"
    rw [List.length_map, List.take_length] at hno
    rw [hno] at q; exact q
end
end
-- W18
section
set_option compiler.extract_closed false
/-- what the law turns beside the solver: its hand, and the cells of its names -/
def Hot (L hn : Addr) : Addr → Prop := fun b => b = hn ∨ b = L + 1 + 1 + 1 ∨ b = L + 1 + 1 + 1 + 1
abbrev Stp (L hn : Addr) (A : Ad) (H : AHeap) (A' : Ad) (H' : AHeap) : Prop := ExtX (Hot L hn) A H A' H'
theorem Stp.refl {L hn : Addr} {A : Ad} {H : AHeap} : Stp L hn A H A H := fun _ _ h o _ => ⟨h, o⟩
structure LS (L : Addr) (H : AHeap) (x hn ca : Addr) (A : Ad) (D : Dat) (ns : List Int) : Prop where
  sol : SolAt H x A D
  hand : HandAt H hn ca ns
  ohn : ¬ Own A hn
  oca : ¬ Own A ca
  c1 : H (L + 1) = some (.cell (some (.ref hn)))
  c2 : H (L + 1 + 1) = some (.cell (some (vn D.n)))
  c3 : ∃ v, H (L + 1 + 1 + 1) = some (.cell v)
  c4 : ∃ v, H (L + 1 + 1 + 1 + 1) = some (.cell v)
theorem SolAt.cell_own {H : AHeap} {x : Addr} {A : Ad} {D : Dat} (h : SolAt H x A D) {b : Addr} {v : Option Value} (hb : H b = some (.cell v)) : ¬ Own A b := fun o => by
  rcases h.list_own o with e | ⟨vs, e⟩
  · rw [e, h.dict] at hb; cases hb
  · rw [hb] at e; cases e
/-- one object that is none of the solver's turns -/
theorem SolAt.turn {H H' : AHeap} {x : Addr} {A : Ad} {D : Dat} (h : SolAt H x A D) {w : Addr} (hf : ∀ b, b ≠ w → H' b = H b) (hw : H w = none ∨ (∃ v, H w = some (.cell v)) ∨ ((∃ vs, H w = some (.list vs)) ∧ ¬ Own A w)) : SolAt H' x A D := by
  refine h.frame (hf x fun e => ?_) (fun b hb => hf b fun e => ?_) (fun b hb => hf b fun e => ?_)
  · subst e
    have := h.inst
    rcases hw with e | ⟨v, e⟩ | ⟨⟨v, e⟩, _⟩ <;> rw [e] at this <;> cases this
  · subst e
    rcases hw with e | ⟨v, e⟩ | ⟨⟨v, e⟩, o⟩
    · exact h.fresh_own e hb
    · exact h.cell_own e hb
    · exact o hb
  · subst e
    obtain ⟨i, hi⟩ := List.getElem?_of_mem hb
    obtain ⟨c, _, hc⟩ := h.lrnOf hi
    rcases hw with e | ⟨v, e⟩ | ⟨⟨v, e⟩, _⟩ <;> rw [e] at hc <;> cases hc
namespace LS
variable {L x hn ca : Addr} {H H' : AHeap} {A A' : Ad} {D D' : Dat} {ns : List Int}
theorem pick (S : LS L H x hn ca A D ns) (I : HandAt H' hn ca ns) (hf : ∀ b, b ≠ hn → H' b = H b) : LS L H' x hn ca A D ns ∧ Stp L hn A H A H' := by
  obtain ⟨i, j, k, _, _, _, hh⟩ := S.hand.hand
  have nc : ∀ {b v}, H b = some (.cell v) → b ≠ hn := fun h e => by rw [e, hh] at h; cases h
  obtain ⟨v3, h3⟩ := S.c3
  obtain ⟨v4, h4⟩ := S.c4
  exact ⟨⟨S.sol.turn hf (.inr (.inr ⟨⟨_, hh⟩, S.ohn⟩)), I, S.ohn, S.oca, (hf _ (nc S.c1)).trans S.c1, (hf _ (nc S.c2)).trans S.c2, ⟨v3, (hf _ (nc h3)).trans h3⟩, ⟨v4, (hf _ (nc h4)).trans h4⟩⟩,
    fun b c hb ho hx => ⟨(hf b fun e => hx (.inl e)).trans hb, ho⟩⟩
theorem fresh (S : LS L H x hn ca A D ns) {w : Addr} {c : Cell} (hw : H w = none) : LS L (H.set w c) x hn ca A D ns ∧ Stp L hn A H A (H.set w c) := by
  have ne : ∀ {b c'}, H b = some c' → b ≠ w := fun h e => by rw [e, hw] at h; cases h
  have kp : ∀ {b c'}, H b = some c' → (H.set w c) b = some c' := fun h => (AHeap.set_ne _ _ (ne h)).trans h
  obtain ⟨v3, h3⟩ := S.c3
  obtain ⟨v4, h4⟩ := S.c4
  obtain ⟨i, j, k, _, _, _, hh⟩ := S.hand.hand
  exact ⟨⟨S.sol.beside hw, S.hand.frame (AHeap.set_ne _ _ (ne S.hand.cells)) (AHeap.set_ne _ _ (ne hh)), S.ohn, S.oca, kp S.c1, kp S.c2, ⟨v3, kp h3⟩, ⟨v4, kp h4⟩⟩, (Ext.fresh hw).toX⟩
theorem cell (S : LS L H x hn ca A D ns) {w : Addr} {v : Option Value} (hw : w = L + 1 + 1 + 1 ∨ w = L + 1 + 1 + 1 + 1) : LS L (H.set w (.cell v)) x hn ca A D ns ∧ Stp L hn A H A (H.set w (.cell v)) := by
  obtain ⟨v3, h3⟩ := S.c3
  obtain ⟨v4, h4⟩ := S.c4
  have hwc : ∃ v, H w = some (.cell v) := by
    rcases hw with e | e
    · rw [e]; exact ⟨v3, h3⟩
    · rw [e]; exact ⟨v4, h4⟩
  obtain ⟨v₀, hc⟩ := hwc
  obtain ⟨i, j, k, _, _, _, hh⟩ := S.hand.hand
  have n1 : (L + 1 : Addr) ≠ w := by rcases hw with e | e <;> rw [e] <;> exact fun e => by have e : L + 1 = _ := e; simp at e
  have n2 : (L + 1 + 1 : Addr) ≠ w := by rcases hw with e | e <;> rw [e] <;> exact fun e => by have e : L + 1 + 1 = _ := e; simp at e
  have cc : ∀ (b : Addr), (∃ v, H b = some (.cell v)) → ∃ v', (H.set w (.cell v)) b = some (.cell v') := fun b ⟨u, hu⟩ => by
    by_cases e : b = w
    · rw [e]; exact ⟨v, AHeap.set_same ..⟩
    · exact ⟨u, (AHeap.set_ne _ _ e).trans hu⟩
  refine ⟨⟨S.sol.turn (fun b hb => AHeap.set_ne _ _ hb) (.inr (.inl ⟨v₀, hc⟩)), S.hand.frame (AHeap.set_ne _ _ fun e => ?_) (AHeap.set_ne _ _ fun e => ?_), S.ohn, S.oca, (AHeap.set_ne _ _ n1).trans S.c1, (AHeap.set_ne _ _ n2).trans S.c2, cc _ ⟨v3, h3⟩, cc _ ⟨v4, h4⟩⟩,
    fun b c hb ho hx => ⟨(AHeap.set_ne _ _ fun e => hx (.inr (by rw [e]; exact hw))).trans hb, ho⟩⟩
  · rw [← e, S.hand.cells] at hc; cases hc
  · rw [← e, hh] at hc; cases hc
theorem ext (S : LS L H x hn ca A D ns) (h' : SolAt H' x A' D') (e : Ext A H A' H') (hn' : D'.n = D.n) : LS L H' x hn ca A' D' ns ∧ Stp L hn A H A' H' := by
  obtain ⟨v3, h3⟩ := S.c3
  obtain ⟨v4, h4⟩ := S.c4
  obtain ⟨i, j, k, a, b, c, hh⟩ := S.hand.hand
  have e1 := e _ _ hh S.ohn
  have e2 := e _ _ S.hand.cells S.oca
  have ce : ∀ {b v}, H b = some (.cell v) → H' b = some (.cell v) := fun hb => (e _ _ hb (S.sol.cell_own hb)).1
  exact ⟨⟨h', ⟨e2.1, ⟨i, j, k, a, b, c, e1.1⟩, S.hand.len, S.hand.ne⟩, e1.2, e2.2, ce S.c1, by rw [hn']; exact ce S.c2, ⟨v3, ce h3⟩, ⟨v4, ce h4⟩⟩, e.toX⟩
end LS
/-- a list of models -/
structure AL (H : AHeap) (A : Ad) (al : Addr) (ps : List (Addr × List Bool)) : Prop where
  at' : H al = some (.list (ps.map fun p => .ref p.1))
  own : ¬ Own A al
  it : ∀ p ∈ ps, H p.1 = some (.list (p.2.map vb)) ∧ ¬ Own A p.1
theorem hot_list {L x hn ca : Addr} {H : AHeap} {A : Ad} {D : Dat} {ns : List Int} (S : LS L H x hn ca A D ns) {b : Addr} {vs : List Value} (hb : H b = some (.list vs)) (hv : ∀ c i r, vs ≠ .ref c :: vi i :: r) : ¬ Hot L hn b := by
  obtain ⟨v3, h3⟩ := S.c3
  obtain ⟨v4, h4⟩ := S.c4
  obtain ⟨i, j, k, _, _, _, hh⟩ := S.hand.hand
  rintro (e | e | e)
  · rw [e, hh] at hb
    simp only [Option.some.injEq, Cell.list.injEq] at hb
    exact hv _ _ _ hb.symm
  · rw [e, h3] at hb; cases hb
  · rw [e, h4] at hb; cases hb
theorem hot_tuple {L x hn ca : Addr} {H : AHeap} {A : Ad} {D : Dat} {ns : List Int} (S : LS L H x hn ca A D ns) {b : Addr} {vs : List Value} (hb : H b = some (.tuple vs)) : ¬ Hot L hn b := by
  obtain ⟨v3, h3⟩ := S.c3
  obtain ⟨v4, h4⟩ := S.c4
  obtain ⟨i, j, k, _, _, _, hh⟩ := S.hand.hand
  rintro (e | e | e)
  · rw [e, hh] at hb; cases hb
  · rw [e, h3] at hb; cases hb
  · rw [e, h4] at hb; cases hb
theorem refs_not {ps : List (Addr × List Bool)} : ∀ c i r, (ps.map fun p => Value.ref p.1) ≠ .ref c :: vi i :: r := fun c i r e => by
  match ps, e with
  | [], e => cases e
  | [_], e => simp at e
  | _ :: _ :: _, e => simp at e
theorem bools_not {ms : List Bool} : ∀ c i r, (ms.map vb) ≠ .ref c :: vi i :: r := fun c i r e => by
  cases ms <;> simp at e
theorem ints_not {ms : List Int} : ∀ c i r, (ms.map vi) ≠ .ref c :: vi i :: r := fun c i r e => by
  cases ms <;> simp at e
theorem AL.stp {L x hn ca : Addr} {H H' : AHeap} {A A' : Ad} {D : Dat} {ns : List Int} {al : Addr} {ps : List (Addr × List Bool)} (V : AL H A al ps) (S : LS L H x hn ca A D ns) (e : Stp L hn A H A' H') : AL H' A' al ps :=
  have h1 := e _ _ V.at' V.own (hot_list S V.at' refs_not)
  ⟨h1.1, h1.2, fun p hp => e _ _ (V.it p hp).1 (V.it p hp).2 (hot_list S (V.it p hp).1 bools_not)⟩
section
variable {KF : Params → Frag} {a : Amb KF} {A : Around} {L : Addr} {m : Loc} {H : AHeap} {env : Env} {Q : Value → AHeap → Prop}
/-- a slice of a list that lies in the base -/
theorem e_slice_base {v u : Expr} {p pos : Pos} {l : Addr} {its : Array Value} {vs : List Value} {k : Nat} (hb : a.h₀.IsList l its) (hvs : its.toList.map er = vs) (hz : vs.length ≤ 100000)
    (h : JE a A L m (eval v env) H (fun x H₁ => x = .ref l ∧ JE a A L m (eval u env) H₁ (fun y H₂ => y = vn k ∧ ∀ D, H₂ D = none → Q (.ref D) (H₂.set D (.list (vs.take k)))))) :
    JE a A L m (eval (.Subscript v (.Slice none (some u) none p) pos) env) H Q := by
  intro s S
  refine Subscript_ (h.then S fun x s₁ H₁ S₁ T₁ ⟨hx, q₁⟩ => ?_)
  refine wpAny_Slice (wpAny_pure (J.then q₁ S₁ fun y s₂ H₂ S₂ T₂ ⟨hy, q⟩ => ?_))
  rw [er_ref hx]
  obtain ⟨t, rfl⟩ := er_int hy
  refine wpAny_pure ?_
  obtain ⟨S₃, T₃⟩ := S₂.grown (s' := { s₂ with heap := s₂.heap.push { cls := .type "slice", data := .fields #[.none, .int (k : Int) t, .none] } }) (fun b o e => Heap.get?_push_of_some _ e) rfl rfl
  have hl' : Heap.IsList _ l its := let ⟨o, ho, r⟩ := hb; ⟨o, S₃.keep _ _ ho, r⟩
  have hz' := size_of hvs
  refine subTail (fun _ _ => ⟨_, rfl⟩) hl'.typeIs slot_list_getitem.lookup ?_
  refine wpAny_getItem_list_slice hl' (Heap.IsSliceOf.new ..) .none (.int _ _) .none (by simp) ?_ (by rw [sizeLine_eq]; (first | lia | omega))
  obtain ⟨S', T'⟩ := S₃.pushed (o := { cls := .type "list", data := .seq (slicePick its none (some (k : Int)) none) }) (c := .list (vs.take k)) (s' := { s₂ with heap := (s₂.heap.push { cls := .type "slice", data := .fields #[.none, .int (k : Int) t, .none] }).push { cls := .type "list", data := .seq (slicePick its none (some (k : Int)) none) } }) rfl ⟨_, _, rfl, by rw [slicePick_hi, ← hvs]; simp⟩ rfl rfl rfl
  exact ⟨_, S', ((T₁.trans T₂).trans T₃).trans T', q _ (S₃.fresh (get?_size _))⟩
end
end
-- W19
section
set_option compiler.extract_closed false
theorem ad_ne (L : Addr) (i j : Nat) (h : i ≠ j) : (show Nat from L) + 1 + i ≠ (show Nat from L) + 1 + j := by (first | lia | omega)
/-- the law's own text, taken from the head -/
def LawAt {P : Params} {oc : Value} {od : Option Addr} {osl : Array (Option Value)} {name qual : Str} {params : Arguments} {body : List Stmt} {scope : Scope} {dV kV doc pm cdv ct : Value} {an : Option Addr}
    (_ : (hd.heap_39 P).lookup 220 = some ⟨oc, od, .func (fnOf name qual params body scope dV kV doc pm an cdv ct), osl⟩) (G : Str → List Stmt → Scope → Prop) : Prop := G qual body scope
section
variable {a : Amb hd.heap_39} {A₀ : Around} {L : Addr}
/-- the text up to the made solver -/
theorem law_pre {fa sc : Addr} {cd : Value} {H : AHeap} {its : Array Value} {ns : List Int} (hb : a.h₀.IsList sc its) (hi : its.toList.map er = ns.map vi) (hz : ns.length ≤ 63)
    (h1 : H (L + 1) = some (.cell none)) (h2 : H (L + 1 + 1) = some (.cell none)) (h3 : H (L + 1 + 1 + 1) = some (.cell none)) (h4 : H (L + 1 + 1 + 1 + 1) = some (.cell none)) (hR : Rm A₀ 12) :
    LawAt (at_law a.w.params) fun name body scope => 
      (∀ m H x hn ca A n, m (Str.ofString "solver") = some (.ref x) → 1 ≤ n → n ≤ 5 → LS L H x hn ca A (D0 n) ns → JS a A₀ L m (execs (body.drop 4) (envOfC name scope L fa cd)) H (fun fl _ _ => fl = .ret (vb true))) →
      JS a A₀ L (nl.set (Str.ofString "script") (.ref sc)) (execs body (envOfC name scope L fa cd)) H (fun fl _ _ => fl = .ret (vb true)) := by
  delta LawAt
  intro K
  refine s_cons ?_
  refine s_assign_name rfl ?_
  refine e_slice_base (k := 63) hb hi (by rw [List.length_map]; (first | lia | omega)) ?_
  walk_at "xs"
  refine ⟨rfl, ?_⟩
  walk_at "xs"
  refine ⟨rfl, fun ca hca => ?_⟩
  walk_at "xs"
  refine c_sum hR.handled (ns := ns) (by rw [AHeap.set_same, List.take_of_length_le (by rw [List.length_map]; exact hz)]) ?_
  have hcae : (H.set ca (.list (List.take 63 (ns.map vi)))) = H.set ca (.list (ns.map vi)) := by rw [List.take_of_length_le (by rw [List.length_map]; exact hz)]
  rw [hcae]
  have ncell : ∀ {b v}, H b = some (.cell v) → b ≠ ca := fun h e => by rw [e, hca] at h; cases h
  have g1 : (H.set ca (.list (ns.map vi))) (L + 1) = some (.cell none) := (AHeap.set_ne _ _ (ncell h1)).trans h1
  have g2 : (H.set ca (.list (ns.map vi))) (L + 1 + 1) = some (.cell none) := (AHeap.set_ne _ _ (ncell h2)).trans h2
  have g3 : (H.set ca (.list (ns.map vi))) (L + 1 + 1 + 1) = some (.cell none) := (AHeap.set_ne _ _ (ncell h3)).trans h3
  have g4 : (H.set ca (.list (ns.map vi))) (L + 1 + 1 + 1 + 1) = some (.cell none) := (AHeap.set_ne _ _ (ncell h4)).trans h4
  have gc : (H.set ca (.list (ns.map vi))) ca = some (.list (ns.map vi)) := AHeap.set_same ..
  generalize H.set ca (.list (ns.map vi)) = H₁ at *
  walk_at "xs"
  refine o_mod (by decide) ?_
  walk_at "xs"
  refine o_mul (by decide) (by decide) ?_
  have hk : 0 ≤ ns.sum.fmod 100003 * 7 := by have := fmod_lo (a := ns.sum) (b := 100003) (by decide); (first | lia | omega)
  generalize ns.sum.fmod 100003 * 7 = k₀ at *
  walk_at "xs"
  refine ⟨by simp, fun hn hhn => ?_⟩
  have nch : ca ≠ hn := fun e => by rw [e, hhn] at gc; cases gc
  have I₁ : HandAt (H₁.set hn (.list [.ref ca, vn 0, vi 0, vi k₀])) hn ca ns := ⟨(AHeap.set_ne _ _ nch).trans gc, ⟨0, 0, k₀, Nat.zero_le _, by decide, hk, AHeap.set_same ..⟩, hz, nch.symm⟩
  have ncell₁ : ∀ {b v}, H₁ b = some (.cell v) → b ≠ hn := fun h e => by rw [e, hhn] at h; cases h
  have k1 : (H₁.set hn (.list [.ref ca, vn 0, vi 0, vi k₀])) (L + 1) = some (.cell none) := (AHeap.set_ne _ _ (ncell₁ g1)).trans g1
  have k2 : (H₁.set hn (.list [.ref ca, vn 0, vi 0, vi k₀])) (L + 1 + 1) = some (.cell none) := (AHeap.set_ne _ _ (ncell₁ g2)).trans g2
  have k3 : (H₁.set hn (.list [.ref ca, vn 0, vi 0, vi k₀])) (L + 1 + 1 + 1) = some (.cell none) := (AHeap.set_ne _ _ (ncell₁ g3)).trans g3
  have k4 : (H₁.set hn (.list [.ref ca, vn 0, vi 0, vi k₀])) (L + 1 + 1 + 1 + 1) = some (.cell none) := (AHeap.set_ne _ _ (ncell₁ g4)).trans g4
  show ∀ v', _ → JU _ _ _ _ _ (H₁.set hn (.list [.ref ca, vn 0, vi 0, vi k₀])) _
  clear gc g1 g2 g3 g4 ncell₁
  generalize H₁.set hn (.list [.ref ca, vn 0, vi 0, vi k₀]) = H₂ at *
  intro v' hv'
  refine u_cell rfl rfl rfl k1 hv' ?_
  walk_at "xs"
  have I₃ : HandAt (H₂.set (L + 1) (.cell (some (.ref hn)))) hn ca ns := I₁.frame (AHeap.set_ne _ _ fun e => by rw [← e, I₁.cells] at k1; cases k1) (AHeap.set_ne _ _ fun e => by
    obtain ⟨_, _, _, _, _, _, hh⟩ := I₁.hand
    rw [← e, hh] at k1; cases k1)
  have p1 : (H₂.set (L + 1) (.cell (some (.ref hn)))) (L + 1) = some (.cell (some (.ref hn))) := AHeap.set_same ..
  have p2 : (H₂.set (L + 1) (.cell (some (.ref hn)))) (L + 1 + 1) = some (.cell none) := (AHeap.set_ne _ _ (ad_ne L 1 0 (by decide))).trans k2
  have p3 : (H₂.set (L + 1) (.cell (some (.ref hn)))) (L + 1 + 1 + 1) = some (.cell none) := (AHeap.set_ne _ _ (ad_ne L 2 0 (by decide))).trans k3
  have p4 : (H₂.set (L + 1) (.cell (some (.ref hn)))) (L + 1 + 1 + 1 + 1) = some (.cell none) := (AHeap.set_ne _ _ (ad_ne L 3 0 (by decide))).trans k4
  clear k1 k2 k3 k4
  generalize H₂.set (L + 1) (.cell (some (.ref hn))) = H₃ at *
  walk_at "xs"
  refine CA.oc (pick_c I₃ (by decide) (by decide) (hR.le (by decide)) fun H₄ r I₄ f₄ r0 r1 => ?_)
  obtain ⟨i₃, j₃, k₃, _, _, _, hh₃⟩ := I₃.hand
  have ncell₃ : ∀ {b v}, H₃ b = some (.cell v) → b ≠ hn := fun h e => by rw [e, hh₃] at h; cases h
  replace p1 := (f₄ _ (ncell₃ p1)).trans p1
  replace p2 := (f₄ _ (ncell₃ p2)).trans p2
  replace p3 := (f₄ _ (ncell₃ p3)).trans p3
  replace p4 := (f₄ _ (ncell₃ p4)).trans p4
  walk_at "xs"
  obtain ⟨n, hn1⟩ : ∃ n : Nat, 1 + r = (n : Int) := ⟨(1 + r).toNat, by (first | lia | omega)⟩
  have hn0 : 1 ≤ n := by (first | lia | omega)
  have hn5 : n ≤ 5 := by (first | lia | omega)
  rw [hn1]
  intro v' hv'
  refine u_cell rfl rfl rfl p2 hv' ?_
  have I₅ : HandAt (H₄.set (L + 1 + 1) (.cell (some (vn n)))) hn ca ns := I₄.frame (AHeap.set_ne _ _ fun e => by rw [← e, I₄.cells] at p2; cases p2) (AHeap.set_ne _ _ fun e => by
    obtain ⟨_, _, _, _, _, _, hh⟩ := I₄.hand
    rw [← e, hh] at p2; cases p2)
  have t1 : (H₄.set (L + 1 + 1) (.cell (some (vn n)))) (L + 1) = some (.cell (some (.ref hn))) := (AHeap.set_ne _ _ (ad_ne L 0 1 (by decide))).trans p1
  have t2 : (H₄.set (L + 1 + 1) (.cell (some (vn n)))) (L + 1 + 1) = some (.cell (some (vn n))) := AHeap.set_same ..
  have t3 : (H₄.set (L + 1 + 1) (.cell (some (vn n)))) (L + 1 + 1 + 1) = some (.cell none) := (AHeap.set_ne _ _ (ad_ne L 2 1 (by decide))).trans p3
  have t4 : (H₄.set (L + 1 + 1) (.cell (some (vn n)))) (L + 1 + 1 + 1 + 1) = some (.cell none) := (AHeap.set_ne _ _ (ad_ne L 3 1 (by decide))).trans p4
  show JS _ _ _ _ _ (H₄.set (L + 1 + 1) (.cell (some (vn n)))) _
  clear p1 p2 p3 p4
  generalize H₄.set (L + 1 + 1) (.cell (some (vn n))) = H₅ at *
  walk_at "xs"
  refine e_callg rfl rfl rfl (by with_unfolding_all decide) rfl (g_Solver _) (k_Solver _) ?_
  walk_at "xs"
  refine CA.oc (c_new (d := 9) (i_makes _) (i_init _) (i_type _) (hR.le (by decide)) fun x dx A₆ hx hdx hne R₆ => init_c (Ini.start hx hdx hne) hn5 (R₆.le (by decide)) fun A H₆ h₆ e₆ => ⟨rfl, ?_⟩)
  obtain ⟨_, _, _, _, _, _, hh₅⟩ := id I₅.hand
  have S₆ : LS L H₆ x hn ca A (D0 n) ns := ⟨h₆, I₅.frame (((e₆ _ _ I₅.cells).1).trans I₅.cells.symm) (((e₆ _ _ hh₅).1).trans hh₅.symm), (e₆ _ _ hh₅).2, (e₆ _ _ I₅.cells).2, (e₆ _ _ t1).1, (e₆ _ _ t2).1, ⟨_, (e₆ _ _ t3).1⟩, ⟨_, (e₆ _ _ t4).1⟩⟩
  clear t1 t2 t3 t4
  intro v' hv'
  refine u_local rfl rfl rfl hv' ?_

  refine K _ _ x hn ca A n ?_ hn0 hn5 S₆
  walk_at "loc"
end
end
-- W20
section
set_option compiler.extract_closed false
def bitI (r t : Nat) : Bool := ((r : Int).fdiv (2 ^ t)).fmod 2 == 1
def bitsOf (n r : Nat) : List Bool := false :: (List.range n).map (bitI r)
def QT : Flow → Loc → AHeap → Prop := fun fl _ _ => fl = .ret (vb true)
/-- the cells of the models made so far -/
def Mk (H : AHeap) (A : Ad) (ps : List (Addr × List Bool)) : Prop := ∀ p ∈ ps, H p.1 = some (.list (p.2.map vb)) ∧ ¬ Own A p.1
theorem Mk.stp {L x hn ca : Addr} {H H' : AHeap} {A A' : Ad} {D : Dat} {ns : List Int} {ps : List (Addr × List Bool)} (V : Mk H A ps) (S : LS L H x hn ca A D ns) (e : Stp L hn A H A' H') : Mk H' A' ps :=
  fun p hp => e _ _ (V p hp).1 (V p hp).2 (hot_list S (V p hp).1 bools_not)
theorem LS.other {L x hn ca : Addr} {H : AHeap} {A : Ad} {D : Dat} {ns : List Int} (S : LS L H x hn ca A D ns) {w : Addr} {v₀ v : Option Value} (hc : H w = some (.cell v₀)) (n1 : L + 1 ≠ w) (n2 : L + 1 + 1 ≠ w) : LS L (H.set w (.cell v)) x hn ca A D ns := by
  obtain ⟨v3, h3⟩ := S.c3
  obtain ⟨v4, h4⟩ := S.c4
  obtain ⟨i, j, k, _, _, _, hh⟩ := S.hand.hand
  have cc : ∀ (b : Addr), (∃ v, H b = some (.cell v)) → ∃ v', (H.set w (.cell v)) b = some (.cell v') := fun b ⟨u, hu⟩ => by
    by_cases e : b = w
    · rw [e]; exact ⟨v, AHeap.set_same ..⟩
    · exact ⟨u, (AHeap.set_ne _ _ e).trans hu⟩
  refine ⟨S.sol.turn (fun b hb => AHeap.set_ne _ _ hb) (.inr (.inl ⟨v₀, hc⟩)), S.hand.frame (AHeap.set_ne _ _ fun e => ?_) (AHeap.set_ne _ _ fun e => ?_), S.ohn, S.oca, (AHeap.set_ne _ _ n1).trans S.c1, (AHeap.set_ne _ _ n2).trans S.c2, cc _ ⟨v3, h3⟩, cc _ ⟨v4, h4⟩⟩
  · rw [← e, S.hand.cells] at hc; cases hc
  · rw [← e, hh] at hc; cases hc
theorem Mk.other {H : AHeap} {A : Ad} {ps : List (Addr × List Bool)} (M : Mk H A ps) {w : Addr} {v₀ v : Option Value} (hc : H w = some (.cell v₀)) : Mk (H.set w (.cell v)) A ps := fun p hp =>
  ⟨(AHeap.set_ne _ _ fun e => by rw [← e, (M p hp).1] at hc; cases hc).trans (M p hp).1, (M p hp).2⟩
theorem cell_stp {L x hn ca : Addr} {H H' : AHeap} {A A' : Ad} {D : Dat} {ns : List Int} (S : LS L H x hn ca A D ns) (e : Stp L hn A H A' H') {b : Addr} {v : Option Value} (hb : H b = some (.cell v)) (n3 : L + 1 + 1 + 1 ≠ b) (n4 : L + 1 + 1 + 1 + 1 ≠ b) : H' b = some (.cell v) := by
  obtain ⟨_, _, _, _, _, _, hh⟩ := S.hand.hand
  refine (e b _ hb (S.sol.cell_own hb) ?_).1
  rintro (h | h | h)
  · rw [h, hh] at hb; cases hb
  · exact n3 h.symm
  · exact n4 h.symm
section
variable {a : Amb hd.heap_39} {A₀ : Around} {L : Addr}
theorem law_alive {fa : Addr} {cd : Value} {ns : List Int} {x hn ca : Addr} {A : Ad} {n : Nat} (hn0 : 1 ≤ n) (hn5 : n ≤ 5) (hR : Rm A₀ 12) :
    LawAt (at_law a.w.params) fun name body scope =>
      (∀ m H al ps, m (Str.ofString "solver") = some (.ref x) → m (Str.ofString "alive") = some (.ref al) → LS L H x hn ca A (D0 n) ns → AL H A al ps → ps.map (·.2) = (List.range (2 ^ n)).map (bitsOf n) → JS a A₀ L m (execs (body.drop 5) (envOfC name scope L fa cd)) H QT) →
      ∀ m H, m (Str.ofString "solver") = some (.ref x) → LS L H x hn ca A (D0 n) ns → JS a A₀ L m (execs (body.drop 4) (envOfC name scope L fa cd)) H QT := by
  delta LawAt
  intro K m H hm S
  have c1 := S.c1
  have c2 := S.c2
  have p5 : (2 : Int) ^ n ≤ 32 := by
    have : (2 : Int) ^ n = ((2 ^ n : Nat) : Int) := by push_cast; rfl
    rw [this]
    have : 2 ^ n ≤ 2 ^ 5 := Nat.pow_le_pow_right (by decide) hn5
    (first | lia | omega)
  show JS a A₀ L m (execs (_ :: _) _) H QT
  refine s_cons ?_
  refine s_assign_comp (cells := fun C => [(Str.ofString "row", C + 1)]) rfl hR.handled (fun _ _ => rfl) (fun _ => rfl) rfl rfl (by decide) (newEnvOk1 (Str.ofString "row") rfl (fun _ _ => rfl) (fun _ => rfl)) ?_
  walk_at "xs"
  have hDn : (D0 n).n = n := rfl
  rw [hDn] at c2 ⊢
  refine o_powN (by (first | lia | omega)) (by decide) ?_
  walk_at "xs"
  refine c_range1 fun Rg hRg => ?_
  obtain ⟨S₁, e₁⟩ := S.fresh (c := .range 0 (2 ^ n)) hRg
  have hrg := AHeap.set_same H Rg (.range 0 (2 ^ n))
  generalize H.set Rg (.range 0 (2 ^ n)) = H₁ at *
  refine ⟨_, _, fun C i ys H' => ∃ ps : List (Addr × List Bool), ys = ps.map (fun p => .ref p.1) ∧ LS L H' x hn ca A (D0 n) ns ∧ Mk H' A ps ∧ ps.map (·.2) = (List.range i).map (bitsOf n) ∧ ∃ v, H' (C + 1) = some (.cell v), .range hrg (natAbs_small (by (first | lia | omega)) (by (first | lia | omega))) (natAbs_small (by have : (0:Int) ≤ 2 ^ n := Int.le_of_lt (Int.pow_pos (by decide)); (first | lia | omega)) (by (first | lia | omega))), by rw [rangeV_length]; (first | lia | omega), fun C hcs hC => ⟨?_, trivial, ?_⟩, ?_⟩
  · have hc0 : H₁ (C + 1) = none := hcs (Str.ofString "row") (C + 1) (.head _)
    exact ⟨[], rfl, (S₁.fresh hc0).1, (fun p hp => by cases hp), rfl, _, AHeap.set_same ..⟩
  · have hc0 : H₁ (C + 1) = none := hcs (Str.ofString "row") (C + 1) (.head _)
    have m1 : L + 1 ≠ C + 1 := fun e => by rw [← e, S₁.c1] at hc0; cases hc0
    have m2 : L + 1 + 1 ≠ C + 1 := fun e => by rw [← e, S₁.c2] at hc0; cases hc0
    have m3 : L + 1 + 1 + 1 ≠ C + 1 := fun e => by obtain ⟨v, h⟩ := S₁.c3; rw [← e, h] at hc0; cases hc0
    have m4 : L + 1 + 1 + 1 + 1 ≠ C + 1 := fun e => by obtain ⟨v, h⟩ := S₁.c4; rw [← e, h] at hc0; cases hc0
    rintro i v ys mC H' hv ⟨ps, rfl, S', M', hb, vc, hvc⟩ hK v' hv'
    obtain ⟨rfl, hi⟩ := rangeV_inv hv
    rw [Int.zero_add] at hv'
    walk_at "xs"
    refine u_cell rfl rfl rfl hvc hv' ?_
    have S₂ := S'.other (v := some (vi i)) hvc m1 m2
    have M₂ := M'.other (v := some (vi i)) hvc
    have r₂ := AHeap.set_same H' (C + 1) (.cell (some (vi i)))
    generalize H'.set (C + 1) (.cell (some (vi i))) = H₂ at *
    refine jt_nil ?_
    walk_at "xs"
    refine ⟨by simp, fun F hF => ?_⟩
    obtain ⟨S₃, e₃⟩ := S₂.fresh (c := .list [vb false]) hF
    have M₃ := M₂.stp S₂ e₃
    have r₃ := cell_stp S₂ e₃ r₂ m3 m4
    have hF₃ := AHeap.set_same H₂ F (.list [vb false])
    have hFo := S₂.sol.fresh_own hF
    show JE _ _ _ _ _ (H₂.set F (.list [vb false])) _
    generalize H₂.set F (.list [vb false]) = H₃ at *
    have c2₃ := S₃.c2
    rw [hDn] at c2₃
    refine e_comp (cells := fun _ => []) hR.handled (fun _ _ => rfl) (fun _ => rfl) rfl rfl (by decide) (newEnvOk0 rfl (by decide)) ?_
    walk_at "xs"
    refine c_range1 fun Rh hRh => ?_
    obtain ⟨S₄, e₄⟩ := S₃.fresh (c := .range 0 (n : Int)) hRh
    have M₄ := M₃.stp S₃ e₄
    have r₄ := cell_stp S₃ e₄ r₃ m3 m4
    have hF₄ := (AHeap.set_ne _ (.range 0 (n : Int)) (fun e : F = Rh => by rw [← e, hF₃] at hRh; cases hRh)).trans hF₃
    have hrh := AHeap.set_same H₃ Rh (.range 0 (n : Int))
    generalize H₃.set Rh (.range 0 (n : Int)) = H₄ at *
    refine ⟨_, _, fun C₂ j ys H' => ys = ((List.range j).map (bitI i)).map vb ∧ H' = H₄, .range hrh (natAbs_small (by (first | lia | omega)) (by (first | lia | omega))) (natAbs_small (by (first | lia | omega)) (by (first | lia | omega))), by rw [rangeV_length]; (first | lia | omega), fun C₂ _ hC₂ => ⟨⟨rfl, rfl⟩, trivial, ?_⟩, ?_⟩
    · rintro j v ys mC₂ H' hv ⟨rfl, rfl⟩ hK v' hv'
      obtain ⟨rfl, hj⟩ := rangeV_inv hv
      rw [Int.zero_add] at hv'
      walk_at "xs"
      refine jt_nil ?_
      walk_at "xs"
      refine o_powN (by (first | lia | omega)) (by decide) ?_
      have hp1 : (0 : Int) < 2 ^ j := Int.pow_pos (by decide)
      have hp2 : (2 : Int) ^ j ≤ 32 := by
        have e : (2 : Int) ^ j = ((2 ^ j : Nat) : Int) := by push_cast; rfl
        rw [e]
        have : 2 ^ j ≤ 2 ^ 5 := Nat.pow_le_pow_right (by decide) (by (first | lia | omega))
        (first | lia | omega)
      refine o_div (by (first | lia | omega)) (by (first | lia | omega)) ?_
      walk_at "xs"
      refine o_mod (by decide) ?_
      walk_at "xs"
      refine ⟨⟨?_, rfl⟩, trivial⟩
      rw [List.range_succ, List.map_append, List.map_append]; rfl
    · rintro C₂ ys H' Dd ⟨rfl, rfl⟩ hDd
      rw [rangeV_length]
      obtain ⟨S₅, e₅⟩ := S₄.fresh (c := .list (((List.range ((n : Int) - 0).toNat).map (bitI i)).map vb)) hDd
      have M₅ := M₄.stp S₄ e₅
      have r₅ := cell_stp S₄ e₅ r₄ m3 m4
      have hF₅ := (AHeap.set_ne _ (.list (((List.range ((n : Int) - 0).toNat).map (bitI i)).map vb)) (fun e : F = Dd => by rw [← e, hF₄] at hDd; cases hDd)).trans hF₄
      have hD₅ := AHeap.set_same H' Dd (.list (((List.range ((n : Int) - 0).toNat).map (bitI i)).map vb))
      generalize H'.set Dd (.list (((List.range ((n : Int) - 0).toNat).map (bitI i)).map vb)) = H₅ at *
      refine o_add_lists hF₅ hD₅ (by simp; (first | lia | omega)) fun E hE => ?_
      obtain ⟨S₆, e₆⟩ := S₅.fresh (c := .list ([vb false] ++ ((List.range ((n : Int) - 0).toNat).map (bitI i)).map vb)) hE
      have M₆ := M₅.stp S₅ e₆
      have r₆ := cell_stp S₅ e₆ r₅ m3 m4
      have hE₆ := AHeap.set_same H₅ E (.list ([vb false] ++ ((List.range ((n : Int) - 0).toNat).map (bitI i)).map vb))
      have hEo := S₅.sol.fresh_own hE
      generalize H₅.set E (.list ([vb false] ++ ((List.range ((n : Int) - 0).toNat).map (bitI i)).map vb)) = H₆ at *
      have hnz : ((n : Int) - 0).toNat = n := by (first | lia | omega)
      rw [hnz] at hE₆
      refine ⟨⟨ps ++ [(E, bitsOf n i)], by simp, S₆, fun p hp => ?_, ?_, _, r₆⟩, trivial⟩
      · rcases List.mem_append.mp hp with h | h
        · exact M₆ p h
        · rw [List.mem_singleton.mp h]; exact ⟨hE₆, hEo⟩
      · rw [List.map_append, hb, List.range_succ, List.map_append]; rfl
  · rintro C ys H₂ Dd ⟨ps, rfl, S₂, M₂, hb, _⟩ hDd
    obtain ⟨S₃, e₃⟩ := S₂.fresh (c := .list (ps.map fun p => Value.ref p.1)) hDd
    have M₃ := M₂.stp S₂ e₃
    have hD₃ := AHeap.set_same H₂ Dd (.list (ps.map fun p => Value.ref p.1))
    have hDo := S₂.sol.fresh_own hDd
    generalize H₂.set Dd (.list (ps.map fun p => Value.ref p.1)) = H₃ at *
    refine u_local rfl rfl rfl rfl ?_
    rw [rangeV_length] at hb
    have hpz : ((2 : Int) ^ n - 0).toNat = 2 ^ n := by
      have e : (2 : Int) ^ n = ((2 ^ n : Nat) : Int) := by push_cast; rfl
      rw [e, Int.sub_zero, Int.toNat_natCast]
    rw [hpz] at hb
    refine K _ _ Dd ps ?_ (Loc.set_same _ _ _) S₃ ⟨hD₃, hDo, M₃⟩ hb
    walk_at "loc"
end
end
-- W21
section
set_option compiler.extract_closed false
def sg (b : List Bool) : Nat → Bool := fun i => b.getD i false
/-- the models of the clauses, as the law keeps them -/
structure Mods (n : Nat) (M : (Nat → Bool) → Prop) (ps : List (Addr × List Bool)) : Prop where
  len : ∀ p ∈ ps, p.2.length = n + 1 ∧ p.2.getD 0 false = false
  sound : ∀ p ∈ ps, M (sg p.2)
  compl : ∀ σ, M σ → ∃ p ∈ ps, ∀ i, 1 ≤ i → i ≤ n → p.2.getD i false = σ i
  inv : ∀ σ σ', (∀ i, 1 ≤ i → i ≤ n → σ i = σ' i) → M σ → M σ'
theorem litT_tl {b : List Bool} {l : Int} : litT b l = true ↔ tl (sg b) l := by
  unfold litT tl sg; simp
theorem any_sat {b : List Bool} {c : List Int} : c.any (litT b) = true ↔ Sat (sg b) c := by
  rw [List.any_eq_true]; unfold Sat
  constructor
  · rintro ⟨l, h, t⟩; exact ⟨l, h, litT_tl.mp t⟩
  · rintro ⟨l, h, t⟩; exact ⟨l, h, litT_tl.mpr t⟩
theorem tl_congr {n : Nat} {σ σ' : Nat → Bool} (h : ∀ i, 1 ≤ i → i ≤ n → σ i = σ' i) {l : Int} (hl : Lit n l) : tl σ l ↔ tl σ' l := by
  unfold tl; rw [h l.natAbs (by have := hl.1; (first | lia | omega)) hl.2]
theorem sat_congr {n : Nat} {σ σ' : Nat → Bool} (h : ∀ i, 1 ≤ i → i ≤ n → σ i = σ' i) {c : List Int} (hl : ∀ l ∈ c, Lit n l) : Sat σ c → Sat σ' c := fun ⟨l, hm, t⟩ => ⟨l, hm, (tl_congr h (hl l hm)).mp t⟩
theorem Mods.filter {n : Nat} {M : (Nat → Bool) → Prop} {ps : List (Addr × List Bool)} (V : Mods n M ps) {c : List Int} (hl : ∀ l ∈ c, Lit n l) : Mods n (With M c) (ps.filter fun p => c.any (litT p.2)) := by
  refine ⟨fun p hp => V.len p (List.mem_filter.mp hp).1, fun p hp => ?_, fun σ hσ => ?_, fun σ σ' h hσ => ⟨V.inv σ σ' h hσ.1, sat_congr h hl hσ.2⟩⟩
  · obtain ⟨h1, h2⟩ := List.mem_filter.mp hp
    exact ⟨V.sound p h1, any_sat.mp h2⟩
  · obtain ⟨p, hp, h⟩ := V.compl σ hσ.1
    refine ⟨p, List.mem_filter.mpr ⟨hp, any_sat.mpr (sat_congr (fun i h1 h2 => (h i h1 h2).symm) hl hσ.2)⟩, h⟩
theorem bitI_all : ∀ b0 b1 b2 b3 b4 : Bool, ∃ r : Fin 32, bitI r 0 = b0 ∧ bitI r 1 = b1 ∧ bitI r 2 = b2 ∧ bitI r 3 = b3 ∧ bitI r 4 = b4 := by decide +kernel
theorem bitI_all4 : ∀ b0 b1 b2 b3 : Bool, ∃ r : Fin 16, bitI r 0 = b0 ∧ bitI r 1 = b1 ∧ bitI r 2 = b2 ∧ bitI r 3 = b3 := by decide +kernel
theorem bitI_all3 : ∀ b0 b1 b2 : Bool, ∃ r : Fin 8, bitI r 0 = b0 ∧ bitI r 1 = b1 ∧ bitI r 2 = b2 := by decide +kernel
theorem bitI_all2 : ∀ b0 b1 : Bool, ∃ r : Fin 4, bitI r 0 = b0 ∧ bitI r 1 = b1 := by decide +kernel
theorem bitI_all1 : ∀ b0 : Bool, ∃ r : Fin 2, bitI r 0 = b0 := by decide +kernel
theorem bits_ex {n : Nat} (h0 : 1 ≤ n) (h5 : n ≤ 5) (f : Nat → Bool) : ∃ r, r < 2 ^ n ∧ ∀ t, t < n → bitI r t = f t := by
  have : n = 1 ∨ n = 2 ∨ n = 3 ∨ n = 4 ∨ n = 5 := by (first | lia | omega)
  rcases this with rfl | rfl | rfl | rfl | rfl
  · obtain ⟨r, h⟩ := bitI_all1 (f 0)
    exact ⟨r, r.2, fun t ht => by have : t = 0 := by (first | lia | omega)
                                  subst this; exact h⟩
  · obtain ⟨r, h1, h2⟩ := bitI_all2 (f 0) (f 1)
    refine ⟨r, r.2, fun t ht => ?_⟩
    have : t = 0 ∨ t = 1 := by (first | lia | omega)
    rcases this with rfl | rfl <;> assumption
  · obtain ⟨r, h1, h2, h3⟩ := bitI_all3 (f 0) (f 1) (f 2)
    refine ⟨r, r.2, fun t ht => ?_⟩
    have : t = 0 ∨ t = 1 ∨ t = 2 := by (first | lia | omega)
    rcases this with rfl | rfl | rfl <;> assumption
  · obtain ⟨r, h1, h2, h3, h4⟩ := bitI_all4 (f 0) (f 1) (f 2) (f 3)
    refine ⟨r, r.2, fun t ht => ?_⟩
    have : t = 0 ∨ t = 1 ∨ t = 2 ∨ t = 3 := by (first | lia | omega)
    rcases this with rfl | rfl | rfl | rfl <;> assumption
  · obtain ⟨r, h1, h2, h3, h4, h5⟩ := bitI_all (f 0) (f 1) (f 2) (f 3) (f 4)
    refine ⟨r, r.2, fun t ht => ?_⟩
    have : t = 0 ∨ t = 1 ∨ t = 2 ∨ t = 3 ∨ t = 4 := by (first | lia | omega)
    rcases this with rfl | rfl | rfl | rfl | rfl <;> assumption
theorem bitsOf_get {n r i : Nat} (h1 : 1 ≤ i) (h2 : i ≤ n) : (bitsOf n r).getD i false = bitI r (i - 1) := by
  obtain ⟨j, rfl⟩ : ∃ j, i = j + 1 := ⟨i - 1, by (first | lia | omega)⟩
  simp [bitsOf, List.getD, show j < n by (first | lia | omega)]
theorem Mods.start {n : Nat} {ps : List (Addr × List Bool)} (h0 : 1 ≤ n) (h5 : n ≤ 5) (hb : ps.map (·.2) = (List.range (2 ^ n)).map (bitsOf n)) : Mods n (fun _ => True) ps ∧ ps.length ≤ 32 := by
  have mem : ∀ p ∈ ps, ∃ r, p.2 = bitsOf n r := fun p hp => by
    have : p.2 ∈ ps.map (·.2) := List.mem_map_of_mem hp
    rw [hb] at this
    obtain ⟨r, _, e⟩ := List.mem_map.mp this
    exact ⟨r, e.symm⟩
  refine ⟨⟨fun p hp => ?_, fun _ _ => trivial, fun σ _ => ?_, fun _ _ _ _ => trivial⟩, ?_⟩
  · obtain ⟨r, e⟩ := mem p hp
    rw [e]; exact ⟨by simp [bitsOf], rfl⟩
  · obtain ⟨r, hr, h⟩ := bits_ex h0 h5 (fun t => σ (t + 1))
    have : bitsOf n r ∈ ps.map (·.2) := by rw [hb]; exact List.mem_map_of_mem (List.mem_range.mpr hr)
    obtain ⟨p, hp, e⟩ := List.mem_map.mp this
    refine ⟨p, hp, fun i h1 h2 => ?_⟩
    rw [e, bitsOf_get h1 h2, h (i - 1) (by (first | lia | omega))]
    congr 1; (first | lia | omega)
  · have := congrArg List.length hb
    rw [List.length_map, List.length_map, List.length_range] at this
    have h2 : 2 ^ n ≤ 2 ^ 5 := Nat.pow_le_pow_right (by decide) h5
    (first | lia | omega)
theorem Base.le {M : (Nat → Bool) → Prop} {D : Dat} {N N' : Nat} (B : Base M D N) (h : N ≤ N') : Base M D N' :=
  ⟨B.n1, B.n5, B.found, B.lrn, B.lit, B.len, Nat.le_trans B.nl h, B.st.imp id fun ⟨h1, h2, h3, h4, h5⟩ => ⟨h1, h2, h3, Nat.le_trans h4 h, h5⟩⟩
def forBody (body : List Stmt) : List Stmt := match body.drop 5 with
  | .For _ _ b _ _ :: _ => b
  | _ => []
def addBody (body : List Stmt) : List Stmt := match forBody body with
  | .If _ b _ _ :: _ => b
  | _ => []
/-- what the law's loop keeps -/
structure LI (L x hn ca : Addr) (n : Nat) (ns : List Int) (N : Nat) (m : Loc) (H : AHeap) (A : Ad) (D : Dat) (M : (Nat → Bool) → Prop) (ps : List (Addr × List Bool)) (al : Addr) : Prop where
  sv : m (Str.ofString "solver") = some (.ref x)
  av : m (Str.ofString "alive") = some (.ref al)
  dn : D.n = n
  ls : LS L H x hn ca A D ns
  base : Base M D N
  mods : AL H A al ps
  md : Mods n M ps
  lp : ps.length ≤ 32
section
variable {a : Amb hd.heap_39} {A₀ : Around} {L : Addr}
theorem law_add {fa : Addr} {cd : Value} {ns : List Int} {x hn ca : Addr} {n N : Nat} (hN : N ≤ 1600) (hR : Rm A₀ 12) :
    LawAt (at_law a.w.params) fun name body scope => ∀ m H A D M ps al, LI L x hn ca n ns N m H A D M ps al →
      JS a A₀ L m (execs (addBody body) (envOfC name scope L fa cd)) H (fun fl m' H' => fl = .cont ∧ ∃ A' D' M' ps' al', LI L x hn ca n ns (N + 1) m' H' A' D' M' ps' al') := by
  delta LawAt
  intro m H A D M ps al I
  have hm1 := I.sv
  have hm2 := I.av
  have c1 := I.ls.c1
  have c2 := I.ls.c2
  have hn0 := I.base.n1
  have hn5 := I.base.n5
  show JS a A₀ L m (execs (_ :: _) _) H _
  refine s_cons ?_
  walk_at "xs"
  refine e_comp (cells := fun _ => []) hR.handled (fun _ _ => rfl) (fun _ => rfl) rfl rfl (by decide) (newEnvOk0 rfl (by decide)) ?_
  walk_at "xs"
  refine CA.oc (pick_c I.ls.hand (by decide) (by decide) (hR.le (by decide)) fun H₁ r I₁ f₁ r0 r1 => ?_)
  obtain ⟨S₁, e₁⟩ := I.ls.pick I₁ f₁
  walk_at "xs"
  refine o_div (by decide) (by decide) ?_
  walk_at "xs"
  have hq : ∃ k : Nat, (3 : Int) - r.fdiv 4 = k ∧ k ≤ 3 := by
    have h1 : 0 ≤ r.fdiv 4 := Int.fdiv_nonneg r0 (by decide)
    have h2 : r.fdiv 4 ≤ 3 := by
      rw [Int.fdiv_eq_ediv_of_nonneg _ (by decide)]; (first | lia | omega)
    exact ⟨(3 - r.fdiv 4).toNat, by (first | lia | omega), by (first | lia | omega)⟩
  obtain ⟨k, hk, hk3⟩ := hq
  rw [hk]
  refine c_range1 fun Rg hRg => ?_
  obtain ⟨S₂, e₂⟩ := S₁.fresh (c := .range 0 (k : Int)) hRg
  have hrg := AHeap.set_same H₁ Rg (.range 0 (k : Int))
  generalize H₁.set Rg (.range 0 (k : Int)) = H₂ at *
  refine ⟨_, _, fun C i ys H' => ∃ c : List Int, ys = c.map vi ∧ c.length = i ∧ (∀ l ∈ c, Lit D.n l) ∧ LS L H' x hn ca A D ns ∧ Stp L hn A H₂ A H', .range hrg (natAbs_small (by (first | lia | omega)) (by (first | lia | omega))) (natAbs_small (by (first | lia | omega)) (by (first | lia | omega))), by rw [rangeV_length]; (first | lia | omega), fun C hcs hC => ⟨⟨[], rfl, rfl, (fun l h => by cases h), S₂, Stp.refl⟩, trivial, ?_⟩, ?_⟩
  · rintro i v ys mC H' hv ⟨c, rfl, hci, hcl, S', e'⟩ hK v' hv'
    have c1 := S'.c1
    have c2 := S'.c2
    walk_at "xs"
    refine jt_nil ?_
    walk_at "xs"
    refine CA.oc (literal_c S'.hand hn0 hn5 (hR.le (by decide)) fun H'' l I'' f'' hlit => ?_)
    obtain ⟨S'', e''⟩ := S'.pick I'' f''
    refine ⟨⟨c ++ [l], by simp, by simp [hci], fun y hy => ?_, S'', e'.trans e''⟩, trivial⟩
    rcases List.mem_append.mp hy with h | h
    · exact hcl y h
    · rw [List.mem_singleton.mp h]; exact hlit
  rintro C ys H₃ Dd ⟨c, rfl, hci, hcl, S₃, e₃⟩ hDd
  rw [rangeV_length] at hci
  have hc3 : c.length ≤ 3 := by (first | lia | omega)
  obtain ⟨S₄, e₄⟩ := S₃.fresh (c := .list (c.map vi)) hDd
  have hD₄ := AHeap.set_same H₃ Dd (.list (c.map vi))
  generalize H₃.set Dd (.list (c.map vi)) = H₄ at *
  walk_at "xs"
  refine c_tuple hD₄ (by rw [List.length_map]; (first | lia | omega)) fun T hT => ?_
  obtain ⟨S₅, e₅⟩ := S₄.fresh (c := .tuple (c.map vi)) hT
  have hT₅ := AHeap.set_same H₄ T (.tuple (c.map vi))
  have e05 : Stp L hn A H A _ := (((e₁.trans e₂).trans e₃).trans e₄).trans e₅
  show ∀ v', _ → JU _ _ _ _ _ (H₄.set T (.tuple (c.map vi))) _
  generalize H₄.set T (.tuple (c.map vi)) = H₅ at *
  intro v' hv'
  obtain ⟨v3, hc3⟩ := S₅.c3
  refine u_cell rfl rfl rfl hc3 hv' ?_
  obtain ⟨S₆, e₆⟩ := S₅.cell (v := some (.ref T)) (.inl rfl)
  have hc6 := AHeap.set_same H₅ (L + 1 + 1 + 1) (.cell (some (.ref T)))
  have hT₆ := (e₆ T _ hT₅ (S₅.sol.tup_own hT₅) (hot_tuple S₅ hT₅)).1
  have e06 := e05.trans e₆
  generalize H₅.set (L + 1 + 1 + 1) (.cell (some (.ref T))) = H₆ at *
  have h₆ := S₆.sol
  walk_at "xs"
  refine CA.oc (add_c h₆ I.base (by (first | lia | omega)) hT₆ hcl (by (first | lia | omega)) (hR.le (by decide)) fun A₇ H₇ D₇ h₇ e₇ hn₇ B₇ => ?_)
  obtain ⟨S₇, x₇⟩ := S₆.ext h₇ e₇ hn₇
  have hT₇ := (e₇ T _ hT₆ (S₆.sol.tup_own hT₆)).1
  have hc7 := (e₇ _ _ hc6 (S₆.sol.cell_own hc6)).1
  have al₇ := I.mods.stp I.ls (e06.trans x₇)
  refine s_cons ?_
  refine s_assign_comp (cells := fun _ => []) rfl hR.handled (fun _ _ => rfl) (fun _ => rfl) rfl rfl (by decide) (newEnvOk0 rfl (by decide)) ?_
  walk_at "xs"
  refine ⟨_, _, fun C i ys H' => H' = H₇ ∧ ys = ((ps.take i).filter fun p => c.any (litT p.2)).map (fun p => Value.ref p.1), .list al₇.at', by rw [List.length_map]; have := I.lp; (first | lia | omega), fun C _ hC => ⟨⟨rfl, rfl⟩, al₇.at', ?_⟩, ?_⟩
  · rintro i v ys mC H' hv ⟨rfl, rfl⟩ hK v' hv'
    obtain ⟨p, hp, rfl⟩ : ∃ p, ps[i]? = some p ∧ v = .ref p.1 := by
      rw [List.getElem?_map] at hv; obtain ⟨k, h1, h2⟩ := Option.map_eq_some_iff.mp hv; exact ⟨k, h1, h2.symm⟩
    have hpm := List.mem_of_getElem? hp
    have hpl := (I.md.len p hpm).1
    walk_at "xs"
    refine jt_one ?_
    walk_at "xs"
    refine CA.oc (true_c hT₇ (al₇.it p hpm).1 (fun l hl => by have := (hcl l hl).2; have := I.dn; (first | lia | omega)) (by have := I.dn; (first | lia | omega)) (hR.le (by decide)) ?_)
    walk_at "xs"
    refine ite_b (fun hb => ?_) (fun hb => ?_)
    · walk_at "xs"
      refine ⟨⟨rfl, ?_⟩, hK⟩
      rw [take_succ' hp, List.filter_append, List.map_append]
      simp [hb]
    · refine ⟨⟨rfl, ?_⟩, hK⟩
      rw [take_succ' hp, List.filter_append]
      simp [hb]
  · rintro C ys H' Dm ⟨rfl, rfl⟩ hDm
    rw [List.length_map, List.take_length]
    obtain ⟨S₈, e₈⟩ := S₇.fresh (c := .list ((ps.filter fun p => c.any (litT p.2)).map (fun p => Value.ref p.1))) hDm
    have al₈ := al₇.stp S₇ e₈
    have hD₈ := AHeap.set_same H' Dm (.list ((ps.filter fun p => c.any (litT p.2)).map (fun p => Value.ref p.1)))
    have hDo := S₇.sol.fresh_own hDm
    generalize H'.set Dm (.list ((ps.filter fun p => c.any (litT p.2)).map (fun p => Value.ref p.1))) = H₈ at *
    refine u_local rfl rfl rfl rfl ?_
    walk_at "xs"
    refine ⟨rfl, A₇, D₇, With M c, ps.filter fun p => c.any (litT p.2), Dm, by walk_at "loc", Loc.set_same _ _ _, hn₇.trans I.dn, S₈, B₇, ⟨hD₈, hDo, fun p hp => al₈.it p (List.mem_filter.mp hp).1⟩, I.md.filter (fun l hl => by rw [← I.dn]; exact hcl l hl), by have := I.lp; have := List.length_filter_le (fun p => c.any (litT p.2)) ps; (first | lia | omega)⟩
end
end
-- W22
section
set_option compiler.extract_closed false
def goodOf (g : List Int) (ps : List (Addr × List Bool)) : List (Addr × List Bool) := ps.filter fun p => g.all (litT p.2)
theorem good_false {n : Nat} {M : (Nat → Bool) → Prop} {ps : List (Addr × List Bool)} {g : List Int} (V : Mods n M ps) (h : ∀ σ, M σ → ¬ ∀ l ∈ g, tl σ l) : goodOf g ps = [] := by
  rw [goodOf, List.filter_eq_nil_iff]
  intro p hp ha
  rw [List.all_eq_true] at ha
  exact h _ (V.sound p hp) fun l hl => litT_tl.mp (ha l hl)
theorem good_true {n : Nat} {M : (Nat → Bool) → Prop} {ps : List (Addr × List Bool)} {g : List Int} (V : Mods n M ps) (hl : ∀ l ∈ g, Lit n l) {fd : List Bool} (hf : fd.length = n + 1) (h : ∃ σ, M σ ∧ (∀ l ∈ g, tl σ l) ∧ ∀ i, 1 ≤ i → i ≤ n → fd.getD i false = σ i) :
    ([false] ++ fd.drop 1) ∈ (goodOf g ps).map (·.2) := by
  obtain ⟨σ, h1, h2, h3⟩ := h
  obtain ⟨p, hp, hb⟩ := V.compl σ h1
  obtain ⟨hlen, h0⟩ := V.len p hp
  refine List.mem_map.mpr ⟨p, List.mem_filter.mpr ⟨hp, List.all_eq_true.mpr fun l hm => litT_tl.mpr ((tl_congr (fun i a b => (hb i a b).symm) (hl l hm)).mp (h2 l hm))⟩, ?_⟩
  apply List.ext_getElem?
  intro i
  cases i with
  | zero =>
    have : 0 < p.2.length := by (first | lia | omega)
    rw [getD_eq (by (first | lia | omega))] at h0
    simp [List.getElem?_eq_getElem this, h0]
  | succ i =>
    by_cases hi : i + 1 ≤ n
    · have a := hb (i + 1) (by (first | lia | omega)) hi
      have b := h3 (i + 1) (by (first | lia | omega)) hi
      rw [getD_eq (by (first | lia | omega))] at a b
      simp only [List.cons_append, List.nil_append, List.getElem?_cons_succ, List.getElem?_drop]
      rw [List.getElem?_eq_getElem (by (first | lia | omega)), show 1 + i = i + 1 by (first | lia | omega), List.getElem?_eq_getElem (by (first | lia | omega)), a, b]
    · rw [List.getElem?_eq_none (by (first | lia | omega)), List.getElem?_eq_none (by simp; (first | lia | omega))]
theorem all_any {g : List Int} {b : List Bool} : (!((g.map (litT b)).any (· == false))) = g.all (litT b) := by
  induction g with
  | nil => rfl
  | cons l g ih => rw [List.map_cons, List.any_cons, List.all_cons, ← ih]; cases litT b l <;> simp
theorem Stp.at_none {L hn : Addr} {A A' : Ad} {H H' : AHeap} (e : Stp L hn A H A' H') {w : Addr} (hw : H w = none) (c : Cell) : Stp L hn A H A' (H'.set w c) := fun b c' hb ho hx =>
  have h := e b c' hb ho hx
  ⟨(AHeap.set_ne _ _ fun e => by rw [e, hw] at hb; cases hb).trans h.1, h.2⟩
theorem set_cell {H : AHeap} {b w : Addr} {c c' : Cell} (h : H b = some c) (hw : H w = none) : (H.set w c') b = some c := (AHeap.set_ne _ _ fun e => by rw [e, hw] at h; cases h).trans h
section
variable {a : Amb hd.heap_39} {A₀ : Around} {L : Addr}
theorem law_ask {fa : Addr} {cd : Value} {ns : List Int} {x hn ca : Addr} {n N : Nat} (hN : N ≤ 1600) (hR : Rm A₀ 12) :
    LawAt (at_law a.w.params) fun name body scope => ∀ m H A D M ps al, LI L x hn ca n ns N m H A D M ps al →
      JS a A₀ L m (execs ((forBody body).drop 1) (envOfC name scope L fa cd)) H (turnEnd (fun m' H' => ∃ A' D' M' ps' al', LI L x hn ca n ns (N + 40) m' H' A' D' M' ps' al') QT) := by
  delta LawAt
  intro m H A D M ps al I
  have hm1 := I.sv
  have hm2 := I.av
  have c1 := I.ls.c1
  have c2 := I.ls.c2
  have hn0 := I.base.n1
  have hn5 := I.base.n5
  show JS a A₀ L m (execs (_ :: _) _) H _
  refine s_cons ?_
  refine s_assign_name rfl ?_
  refine e_comp (cells := fun _ => []) hR.handled (fun _ _ => rfl) (fun _ => rfl) rfl rfl (by decide) (newEnvOk0 rfl (by decide)) ?_
  walk_at "xs"
  refine CA.oc (pick_c I.ls.hand (by decide) (by decide) (hR.le (by decide)) fun H₁ r I₁ f₁ r0 r1 => ?_)
  obtain ⟨S₁, e₁⟩ := I.ls.pick I₁ f₁
  walk_at "xs"
  obtain ⟨k, hk, hk3⟩ : ∃ k : Nat, r = k ∧ k ≤ 3 := ⟨r.toNat, by (first | lia | omega), by (first | lia | omega)⟩
  rw [hk]
  refine c_range1 fun Rg hRg => ?_
  obtain ⟨S₂, e₂⟩ := S₁.fresh (c := .range 0 (k : Int)) hRg
  have hrg := AHeap.set_same H₁ Rg (.range 0 (k : Int))
  generalize H₁.set Rg (.range 0 (k : Int)) = H₂ at *
  refine ⟨_, _, fun C i ys H' => ∃ c : List Int, ys = c.map vi ∧ c.length = i ∧ (∀ l ∈ c, Lit D.n l) ∧ LS L H' x hn ca A D ns ∧ Stp L hn A H₂ A H', .range hrg (natAbs_small (by (first | lia | omega)) (by (first | lia | omega))) (natAbs_small (by (first | lia | omega)) (by (first | lia | omega))), by rw [rangeV_length]; (first | lia | omega), fun C hcs hC => ⟨⟨[], rfl, rfl, (fun l h => by cases h), S₂, Stp.refl⟩, trivial, ?_⟩, ?_⟩
  · rintro i v ys mC H' hv ⟨c, rfl, hci, hcl, S', e'⟩ hK v' hv'
    have c1 := S'.c1
    have c2 := S'.c2
    walk_at "xs"
    refine jt_nil ?_
    walk_at "xs"
    refine CA.oc (literal_c S'.hand hn0 hn5 (hR.le (by decide)) fun H'' l I'' f'' hlit => ?_)
    obtain ⟨S'', e''⟩ := S'.pick I'' f''
    refine ⟨⟨c ++ [l], by simp, by simp [hci], fun y hy => ?_, S'', e'.trans e''⟩, trivial⟩
    rcases List.mem_append.mp hy with h | h
    · exact hcl y h
    · rw [List.mem_singleton.mp h]; exact hlit
  rintro C ys H₃ Gl ⟨g, rfl, hci, hgl, S₃, e₃⟩ hGl
  rw [rangeV_length] at hci
  have hg3 : g.length ≤ 3 := by (first | lia | omega)
  obtain ⟨S₄, e₄⟩ := S₃.fresh (c := .list (g.map vi)) hGl
  have hG₄ := AHeap.set_same H₃ Gl (.list (g.map vi))
  have hGo := S₃.sol.fresh_own hGl
  have e04 : Stp L hn A H A _ := ((e₁.trans e₂).trans e₃).trans e₄
  show ∀ v', _ → JU _ _ _ _ _ (H₃.set Gl (.list (g.map vi))) _
  generalize H₃.set Gl (.list (g.map vi)) = H₄ at *
  intro v' hv'
  obtain ⟨v4, hc4⟩ := S₄.c4
  refine u_cell rfl rfl rfl hc4 hv' ?_
  obtain ⟨S₅, e₅⟩ := S₄.cell (v := some (.ref Gl)) (.inr rfl)
  have hc5 := AHeap.set_same H₄ (L + 1 + 1 + 1 + 1) (.cell (some (.ref Gl)))
  have hG₅ := (e₅ Gl _ hG₄ hGo (hot_list S₄ hG₄ ints_not)).1
  have e05 := e04.trans e₅
  show JS _ _ _ _ _ (H₄.set (L + 1 + 1 + 1 + 1) (.cell (some (.ref Gl)))) _
  generalize H₄.set (L + 1 + 1 + 1 + 1) (.cell (some (.ref Gl))) = H₅ at *
  have al₅ := I.mods.stp I.ls e05
  clear e04 e₁ e₂ e₃ e₄ e₅ c1 c2 hG₄ hc4 S₁ S₂ S₃ S₄ hrg hRg hGl
  refine s_cons ?_
  refine s_assign_comp (cells := fun C => [(Str.ofString "model", C + 1)]) rfl hR.handled (fun _ _ => rfl) (fun _ => rfl) rfl rfl (by decide) (newEnvOk1 (Str.ofString "model") rfl (fun _ _ => rfl) (fun _ => rfl)) ?_
  walk_at "xs"
  refine ⟨_, _, fun C i ys H' => LS L H' x hn ca A D ns ∧ Stp L hn A H₅ A H' ∧ H' (L + 1 + 1 + 1 + 1) = some (.cell (some (.ref Gl))) ∧ (∃ v, H' (C + 1) = some (.cell v)) ∧ ys = (goodOf g (ps.take i)).map (fun p => Value.ref p.1), .list al₅.at', by rw [List.length_map]; have := I.lp; (first | lia | omega), fun C hcs hC => ⟨?_, ?_, ?_⟩, ?_⟩
  · have hc0 : H₅ (C + 1) = none := hcs (Str.ofString "model") (C + 1) (.head _)
    exact ⟨(S₅.fresh hc0).1, (S₅.fresh hc0).2, set_cell hc5 hc0, ⟨_, AHeap.set_same ..⟩, rfl⟩
  · have hc0 : H₅ (C + 1) = none := hcs (Str.ofString "model") (C + 1) (.head _)
    exact set_cell al₅.at' hc0
  · have hc0 : H₅ (C + 1) = none := hcs (Str.ofString "model") (C + 1) (.head _)
    have m1 : L + 1 ≠ C + 1 := fun e => by rw [← e, S₅.c1] at hc0; cases hc0
    have m2 : L + 1 + 1 ≠ C + 1 := fun e => by rw [← e, S₅.c2] at hc0; cases hc0
    have m3 : L + 1 + 1 + 1 ≠ C + 1 := fun e => by obtain ⟨v, h⟩ := S₅.c3; rw [← e, h] at hc0; cases hc0
    have m4 : L + 1 + 1 + 1 + 1 ≠ C + 1 := fun e => by rw [← e, hc5] at hc0; cases hc0
    rintro i v ys mC H' hv ⟨S', e', hc', ⟨vc, hvc⟩, rfl⟩ hK v' hv'
    obtain ⟨p, hp, rfl⟩ : ∃ p, ps[i]? = some p ∧ v = .ref p.1 := by
      rw [List.getElem?_map] at hv; obtain ⟨k, h1, h2⟩ := Option.map_eq_some_iff.mp hv; exact ⟨k, h1, h2.symm⟩
    have hpm := List.mem_of_getElem? hp
    have hpl := (I.md.len p hpm).1
    walk_at "xs"
    refine u_cell rfl rfl rfl hvc hv' ?_
    have S₆ := S'.other (v := some (.ref p.1)) hvc m1 m2
    have e₆ := e'.at_none hc0 (.cell (some (.ref p.1)))
    have r₆ := AHeap.set_same H' (C + 1) (.cell (some (.ref p.1)))
    have hc6 := (AHeap.set_ne H' (.cell (some (.ref p.1))) m4).trans hc'
    generalize H'.set (C + 1) (.cell (some (.ref p.1))) = H₆ at *
    have al₆ := al₅.stp S₅ e₆
    have hG₆ := (e₆ Gl _ hG₅ hGo (hot_list S₅ hG₅ ints_not)).1
    have hp6 := (al₆.it p hpm).1
    refine jt_one ?_
    walk_at "xs"
    refine e_comp (cells := fun _ => []) hR.handled (fun _ _ => rfl) (fun _ => rfl) rfl rfl (by decide) (newEnvOk0 rfl (by decide)) ?_
    walk_at "xs"
    refine ⟨_, _, fun C₂ j ys H' => ys = ((g.take j).map (litT p.2)).map vb ∧ H' = H₆, .list hG₆, by rw [List.length_map]; (first | lia | omega), fun C₂ _ hC₂ => ⟨⟨rfl, rfl⟩, hG₆, ?_⟩, ?_⟩
    · rintro j v ys mC₂ H' hv ⟨rfl, rfl⟩ hK₂ v' hv'
      obtain ⟨l, hl, rfl⟩ : ∃ l, g[j]? = some l ∧ v = vi l := by
        rw [List.getElem?_map] at hv; obtain ⟨k, h1, h2⟩ := Option.map_eq_some_iff.mp hv; exact ⟨k, h1, h2.symm⟩
      have hll := (hgl l (List.mem_of_getElem? hl)).2
      have hdn := I.dn
      walk_at "xs"
      refine jt_nil ?_
      walk_at "xs"
      refine o_itemN false (fun _ _ => ⟨_, rfl⟩) hp6 (by (first | lia | omega)) (by (first | lia | omega)) ?_
      walk_at "xs"
      exact ⟨⟨by rw [take_succ' hl, List.map_append, List.map_append]; rfl, rfl⟩, hK₂⟩
    · rintro C₂ ys H' Db ⟨rfl, rfl⟩ hDb
      rw [List.length_map, List.take_length]
      obtain ⟨S₇, x₇⟩ := S₆.fresh (c := .list ((g.map (litT p.2)).map vb)) hDb
      have e₇ := e₆.trans x₇
      have r₇ := set_cell (c' := .list ((g.map (litT p.2)).map vb)) r₆ hDb
      have hc7 := set_cell (c' := .list ((g.map (litT p.2)).map vb)) hc6 hDb
      have hD₇ := AHeap.set_same H' Db (.list ((g.map (litT p.2)).map vb))
      generalize H'.set Db (.list ((g.map (litT p.2)).map vb)) = H₇ at *
      have hK₇ := (al₅.stp S₅ e₇).at'
      refine o_notinb hD₇ ?_
      rw [all_any]
      walk_at "xs"
      refine ite_b (fun hb => ?_) (fun hb => ?_)
      · walk_at "xs"
        refine ⟨⟨S₇, e₇, hc7, ⟨_, r₇⟩, ?_⟩, hK₇⟩
        rw [take_succ' hp, goodOf, goodOf, List.filter_append, List.map_append]
        simp [hb]
      · refine ⟨⟨S₇, e₇, hc7, ⟨_, r₇⟩, ?_⟩, hK₇⟩
        rw [take_succ' hp, goodOf, goodOf, List.filter_append]
        simp [hb]
  rintro C ys H₆ Gd ⟨S₆, e₆, hc6, _, rfl⟩ hGd
  rw [List.length_map, List.take_length]
  obtain ⟨S₇, x₇⟩ := S₆.fresh (c := .list ((goodOf g ps).map (fun p => Value.ref p.1))) hGd
  have e₇ := e₆.trans x₇
  have al₇ := al₅.stp S₅ e₇
  have hGd₇ := AHeap.set_same H₆ Gd (.list ((goodOf g ps).map (fun p => Value.ref p.1)))
  have hGdo := S₆.sol.fresh_own hGd
  have hc7 := set_cell (c' := .list ((goodOf g ps).map (fun p => Value.ref p.1))) hc6 hGd
  have hG₇ := (e₇ Gl _ hG₅ hGo (hot_list S₅ hG₅ ints_not)).1
  generalize H₆.set Gd (.list ((goodOf g ps).map (fun p => Value.ref p.1))) = H₇ at *
  have gd₇ : AL H₇ A Gd (goodOf g ps) := ⟨hGd₇, hGdo, fun p hp => al₇.it p (List.mem_filter.mp hp).1⟩
  have cc1 := S₇.c1
  have cc2 := S₇.c2
  clear e₆ x₇ e₇ S₅ S₆ al₅ hG₅ hc5 hc6 hGd hGd₇
  refine u_local (v' := .ref Gd) rfl rfl rfl rfl ?_
  refine s_cons ?_
  refine JS.mono (Q := fun fl m' H' => fl = .next ∧ ∃ lim : Int, (lim = 1 ∨ lim = 1000) ∧ m' = (m.set (Str.ofString "good") (.ref Gd)).set (Str.ofString "limit") (vi lim) ∧ HandAt H' hn ca ns ∧ ∀ b, b ≠ hn → H' b = H₇ b) ?_ ?_
  · walk_at "xs"
    refine CA.oc (pick_c S₇.hand (by decide) (by decide) (hR.le (by decide)) fun H₈ r₂ I₈ f₈ r2 r3 => ?_)
    walk_at "xs"
    refine ite_e (fun e => ?_) (fun e => ?_)
    · walk_at "xs"
      exact ⟨rfl, 1, .inl rfl, rfl, I₈, f₈⟩
    · walk_at "xs"
      exact ⟨rfl, 1000, .inr rfl, rfl, I₈, f₈⟩
  rintro fl m' H₈ ⟨rfl, lim, hlim, rfl, I₈, f₈⟩
  obtain ⟨S₈, x₈⟩ := S₇.pick I₈ f₈
  have al₈ := al₇.stp S₇ x₈
  have gd₈ := gd₇.stp S₇ x₈
  have hc8 : H₈ (L + 1 + 1 + 1 + 1) = some (.cell (some (.ref Gl))) := (f₈ _ fun e => by
    obtain ⟨_, _, _, _, _, _, hh⟩ := S₇.hand.hand
    rw [e, hh] at hc7; cases hc7).trans hc7
  have hG₈ := (x₈ Gl _ hG₇ hGo (hot_list S₇ hG₇ ints_not)).1
  have cc1 := S₈.c1
  have cc2 := S₈.c2
  have h₈ := S₈.sol
  clear S₇ x₈ al₇ gd₇ hc7 hG₇ I₈ f₈
  show JS a A₀ L _ (execs (_ :: _) _) H₈ _
  refine s_cons ?_
  walk_at "xs"
  refine c_tuple hG₈ (by rw [List.length_map]; (first | lia | omega)) fun T hT => ?_
  obtain ⟨S₉, x₉⟩ := S₈.fresh (c := .tuple (g.map vi)) hT
  have al₉ := al₈.stp S₈ x₉
  have gd₉ := gd₈.stp S₈ x₉
  have hT₉ := AHeap.set_same H₈ T (.tuple (g.map vi))
  show JX _ _ _ _ _ _ _ (H₈.set T (.tuple (g.map vi))) _
  generalize H₈.set T (.tuple (g.map vi)) = H₉ at *
  have h₉ := S₉.sol
  walk_at "xs"
  refine CA.oc (solve_c h₉ I.base (by (first | lia | omega)) (.inl ⟨hT₉, S₉.sol.tup_own hT₉⟩) (by (first | lia | omega)) hgl (hR.le (by decide)) (.inl rfl) fun A₁ H₁₀ D₁ v h₁₀ e₁₀ hn₁₀ B₁₀ ans => ?_)
  obtain ⟨S₁₀, x₁₀⟩ := S₉.ext h₁₀ e₁₀ hn₁₀
  have al₁₀ := al₉.stp S₉ x₁₀
  have gd₁₀ := gd₉.stp S₉ x₁₀
  have cc1 := S₁₀.c1
  have cc2 := S₁₀.c2
  have hgl' : ∀ l ∈ g, Lit n l := fun l hl => by rw [← I.dn]; exact hgl l hl
  have hm1' := I.sv
  clear S₉ S₈ al₈ gd₈ al₉ gd₉ hG₈ hc8 x₉ x₁₀
  have fin : ∀ m' H', m' (Str.ofString "solver") = some (.ref x) → m' (Str.ofString "alive") = some (.ref al) → ∀ A' D', LS L H' x hn ca A' D' ns → AL H' A' al ps → D'.n = D.n → Base M D' (N + 40) → ∃ A' D' M' ps' al', LI L x hn ca n ns (N + 40) m' H' A' D' M' ps' al' :=
    fun m' H' a1 a2 A' D' a3 a4 a5 a6 => ⟨A', D', M, ps, al, a1, a2, a5.trans I.dn, a3, a6, a4, I.md, I.lp⟩
  rcases ans with ⟨rfl, hmost⟩ | ⟨rfl, hno⟩ | ⟨rfl, hyes⟩
  · have hl1 : lim = 1 := by (first | lia | omega)
    subst hl1
    walk_at "xs"
    refine o_is_none (.inl rfl) ?_
    walk_at "xs"
    rw [show ((Value.none == Value.none) = true) from rfl]
    walk_at "xs"
    refine ite_e (fun _ => ?_) (fun h => absurd rfl h)
    walk_at "xs"
    exact fin _ _ (by walk_at "loc") (by walk_at "loc") A₁ D₁ S₁₀ al₁₀ hn₁₀ B₁₀
  · walk_at "xs"
    refine o_is_noneb ?_
    walk_at "xs"
    refine ⟨by simp, fun E hE => ?_⟩
    obtain ⟨S₁₁, x₁₁⟩ := S₁₀.fresh (c := .list []) hE
    have al₁₁ := al₁₀.stp S₁₀ x₁₁
    have gd₁₁ := gd₁₀.stp S₁₀ x₁₁
    have hE₁₁ := AHeap.set_same H₁₀ E (.list [])
    generalize H₁₀.set E (.list []) = H₁₁ at *
    refine o_ne_nil hR.units' gd₁₁.at' hE₁₁ ?_
    rw [good_false I.md hno]
    refine o_neb ?_
    walk_at "xs"
    refine ite_b (fun h => absurd h (by decide)) (fun _ => ?_)
    walk_at "xs"
    exact fin _ _ (by walk_at "loc") (by walk_at "loc") A₁ D₁ S₁₁ al₁₁ hn₁₀ B₁₀
  · walk_at "xs"
    refine o_is_noneb ?_
    walk_at "xs"
    refine ⟨by simp, fun E hE => ?_⟩
    obtain ⟨S₁₁, x₁₁⟩ := S₁₀.fresh (c := .list []) hE
    have al₁₁ := al₁₀.stp S₁₀ x₁₁
    have gd₁₁ := gd₁₀.stp S₁₀ x₁₁
    have hE₁₁ := AHeap.set_same H₁₀ E (.list [])
    generalize H₁₀.set E (.list []) = H₁₁ at *
    obtain ⟨σ, hσ, hσg, hσf⟩ := hyes
    have hfl := B₁₀.found
    have hdn1 : D₁.n = n := hn₁₀.trans I.dn
    have hin := good_true I.md hgl' (fd := D₁.found) (by rw [hfl, hdn1]) ⟨σ, hσ, hσg, fun i a b => hσf i a (by rw [hdn1]; exact b)⟩
    have hne : (goodOf g ps) ≠ [] := fun e => by rw [e] at hin; cases hin
    have hz₁ : Sz D₁ := by
      rcases B₁₀.st with ⟨_, h⟩ | ⟨_, G, h3, h4, h5⟩
      · exact absurd hσ (h σ)
      · exact G.sz (B₁₀.bd (by (first | lia | omega)) h3 h4 h5)
    refine o_ne_nil hR.units' gd₁₁.at' hE₁₁ ?_
    rw [show (!((goodOf g ps).map (fun p => Value.ref p.1)).isEmpty) = true by cases hgo : goodOf g ps <;> simp_all]
    refine o_neb ?_
    walk_at "xs"
    refine ite_b (fun h => absurd h (by decide)) (fun _ => ?_)
    have h₁₁ := S₁₁.sol
    walk_at "xs"
    refine CA.oc (model_c h₁₁ hz₁ (hR.le (by decide)) fun Mo hMo => ?_)
    obtain ⟨S₁₂, x₁₂⟩ := S₁₁.fresh (c := .list (D₁.found.map vb)) hMo
    have al₁₂ := al₁₁.stp S₁₁ x₁₂
    have gd₁₂ := gd₁₁.stp S₁₁ x₁₂
    have hM₁₂ := AHeap.set_same H₁₁ Mo (.list (D₁.found.map vb))
    generalize H₁₁.set Mo (.list (D₁.found.map vb)) = H₁₂ at *
    have cc1 := S₁₂.c1
    have cc2 := S₁₂.c2
    walk_at "xs"
    refine c_len_list hM₁₂ (by rw [List.length_map, hfl]; (first | lia | omega)) ?_
    rw [List.length_map, hfl]
    walk_at "xs"
    refine ite_n (fun h => absurd (by (first | lia | omega)) h) (fun _ => ?_)
    walk_at "xs"
    refine ⟨by simp, fun F hF => ?_⟩
    obtain ⟨S₁₃, x₁₃⟩ := S₁₂.fresh (c := .list [vb false]) hF
    have al₁₃ := al₁₂.stp S₁₂ x₁₃
    have gd₁₃ := gd₁₂.stp S₁₂ x₁₃
    have hM₁₃ := set_cell (c' := .list [vb false]) hM₁₂ hF
    have hF₁₃ := AHeap.set_same H₁₂ F (.list [vb false])
    show JE _ _ _ _ _ (H₁₂.set F (.list [vb false])) _
    generalize H₁₂.set F (.list [vb false]) = H₁₃ at *
    walk_at "xs"
    refine ⟨Mo, _, 1, rfl, hM₁₃, rfl, by decide, by rw [List.length_map, hfl]; (first | lia | omega), by rw [List.length_map, hfl]; (first | lia | omega), fun K hK => ?_⟩
    obtain ⟨S₁₄, x₁₄⟩ := S₁₃.fresh (c := .list ((D₁.found.map vb).drop (Int.toNat 1))) hK
    have al₁₄ := al₁₃.stp S₁₃ x₁₄
    have gd₁₄ := gd₁₃.stp S₁₃ x₁₄
    have hF₁₄ := set_cell (c' := .list ((D₁.found.map vb).drop (Int.toNat 1))) hF₁₃ hK
    have hK₁₄ := AHeap.set_same H₁₃ K (.list ((D₁.found.map vb).drop (Int.toNat 1)))
    generalize H₁₃.set K (.list ((D₁.found.map vb).drop (Int.toNat 1))) = H₁₄ at *
    refine o_add_lists hF₁₄ hK₁₄ (by simp; (first | lia | omega)) fun P hP => ?_
    obtain ⟨S₁₅, x₁₅⟩ := S₁₄.fresh (c := .list ([vb false] ++ (D₁.found.map vb).drop (Int.toNat 1))) hP
    have al₁₅ := al₁₄.stp S₁₄ x₁₅
    have gd₁₅ := gd₁₄.stp S₁₄ x₁₅
    have hP₁₅ := AHeap.set_same H₁₄ P (.list ([vb false] ++ (D₁.found.map vb).drop (Int.toNat 1)))
    generalize H₁₄.set P (.list ([vb false] ++ (D₁.found.map vb).drop (Int.toNat 1))) = H₁₅ at *
    walk_at "xs"
    refine o_notin_lists (d := 11) (b := [false] ++ D₁.found.drop 1) (ms := (goodOf g ps).map (·.2)) (rs := (goodOf g ps).map (·.1)) hR (by rw [hP₁₅]; simp [List.map_drop]) ⟨by rw [gd₁₅.at', List.map_map]; rfl, by simp, fun i r b h1 h2 => ?_⟩ ?_
    · rw [List.getElem?_map] at h1 h2
      obtain ⟨p, hp, rfl⟩ := Option.map_eq_some_iff.mp h1
      rw [hp] at h2
      simp only [Option.map_some, Option.some.injEq] at h2
      rw [← h2]
      exact (gd₁₅.it p (List.mem_of_getElem? hp)).1
    rw [show (!((goodOf g ps).map (·.2)).contains ([false] ++ D₁.found.drop 1)) = false by rw [List.contains_iff_mem.mpr hin]; rfl]
    walk_at "xs"
    exact fin _ _ (by walk_at "loc") (by walk_at "loc") A₁ D₁ S₁₅ al₁₅ hn₁₀ B₁₀
end
end
-- W23
section
set_option compiler.extract_closed false
section
variable {a : Amb hd.heap_39} {A₀ : Around} {L : Addr}
/-- a turn of the law's loop -/
theorem law_turn {fa : Addr} {cd : Value} {ns : List Int} {x hn ca : Addr} {n N : Nat} (hN : N ≤ 1500) (hR : Rm A₀ 12) :
    LawAt (at_law a.w.params) fun name body scope => ∀ m H A D M ps al, LI L x hn ca n ns N m H A D M ps al →
      JS a A₀ L m (execs (forBody body) (envOfC name scope L fa cd)) H (turnEnd (fun m' H' => ∃ A' D' M' ps' al', LI L x hn ca n ns (N + 40) m' H' A' D' M' ps' al') QT) := by
  have hadd := law_add (a := a) (A₀ := A₀) (L := L) (fa := fa) (cd := cd) (ns := ns) (x := x) (hn := hn) (ca := ca) (n := n) (N := N) (by (omega)) hR
  have hask := law_ask (a := a) (A₀ := A₀) (L := L) (fa := fa) (cd := cd) (ns := ns) (x := x) (hn := hn) (ca := ca) (n := n) (N := N) (by (omega)) hR
  delta LawAt at *
  intro m H A D M ps al I
  have cc1 := I.ls.c1
  show JS a A₀ L m (execs (_ :: _) _) H _
  refine s_cons ?_
  refine s_if ?_
  walk_at "xs"
  refine CA.oc (pick_c I.ls.hand (by decide) (by decide) (hR.le (by decide)) fun H₁ r I₁ f₁ r0 r1 => ?_)
  obtain ⟨S₁, e₁⟩ := I.ls.pick I₁ f₁
  have I₂ : LI L x hn ca n ns N m H₁ A D M ps al := ⟨I.sv, I.av, I.dn, S₁, I.base, I.mods.stp I.ls e₁, I.md, I.lp⟩
  refine e_int ?_
  refine o_lt ?_
  refine t_bool ?_
  refine ite_d (fun h => ?_) (fun h => ?_)
  · refine (hadd m H₁ A D M ps al I₂).mono ?_
    rintro fl m' H' ⟨rfl, A', D', M', ps', al', I'⟩
    exact ⟨A', D', M', ps', al', ⟨I'.sv, I'.av, I'.dn, I'.ls, I'.base.le (by (first | lia | omega)), I'.mods, I'.md, I'.lp⟩⟩
  · refine s_nil ?_
    exact hask m H₁ A D M ps al I₂
end
end
-- W24
section
set_option compiler.extract_closed false
theorem getD_rep {α : Type} {k i : Nat} {v d : α} (h : i < k) : (List.replicate k v).getD i d = v := by simp [List.getD, h]
theorem base0 {n : Nat} (h1 : 1 ≤ n) (h5 : n ≤ 5) : Base (fun _ => True) (D0 n) 0 := by
  have core : Core (fun _ => True) (D0 n) := {
    n1 := h1
    n5 := h5
    lvals := by simp [D0]
    llevs := by simp [D0]
    lreas := by simp [D0]
    lphas := by simp [D0]
    lit := fun l h => by cases h
    nd := List.Pairwise.nil
    vals := fun v a b => by
      have : v < n + 1 := by have : v ≤ n := b; (first | lia | omega)
      simp only [D0]
      rw [getD_rep this]; simp
    phas := fun v a b => by
      have : v < n + 1 := by have : v ≤ n := b; (first | lia | omega)
      simp only [D0]
      rw [getD_rep this]; simp
    sorted := List.Pairwise.nil
    levs := fun i l h => by simp [D0] at h
    reas := fun i l h => by simp [D0] at h
    clen := fun c h => by cases h
    clit := fun c h => by cases h
    cnd := fun c h => by cases h
    imp := fun σ _ c h => by cases h
    conv := fun _ _ _ => trivial }
  have rows : ∀ j, (D0 n).wat.getD j [] = [] := fun j => by
    simp only [D0]
    by_cases h : j < 2 * n + 2
    · rw [getD_rep h]
    · simp [List.getD, h]
  have good : Good (fun _ => True) (D0 n) := ⟨core, by simp [D0], ⟨(fun j => by rw [rows]; simp), (fun j k h => by rw [rows] at h; cases h), (fun l _ k c h => by simp [D0] at h)⟩, (fun k c h => by simp [D0] at h), (fun p h => by cases h), Nat.le_refl _⟩
  exact ⟨h1, h5, by simp [D0], (fun c h => by cases h), (fun c h => by cases h), (fun c h => by cases h), Nat.le_refl _, .inr ⟨rfl, good, rfl, Nat.le_refl _, by simp [D0]⟩⟩
section
variable {a : Amb hd.heap_39} {A₀ : Around} {L : Addr}
/-- the law's end: what was learned, the last question -/
theorem law_end {fa : Addr} {cd : Value} {ns : List Int} {x hn ca : Addr} {n N : Nat} (hN : N ≤ 1500) (hR : Rm A₀ 12) :
    LawAt (at_law a.w.params) fun name body scope => ∀ m H A D M ps al, LI L x hn ca n ns N m H A D M ps al →
      JS a A₀ L m (execs (body.drop 6) (envOfC name scope L fa cd)) H QT := by
  delta LawAt
  intro m H A D M ps al I
  have hm1 := I.sv
  have hm2 := I.av
  have h₀ := I.ls.sol
  have hnl := I.base.nl
  have hll := h₀.lrnlen
  show JS a A₀ L m (execs (_ :: _) _) H _
  refine s_cons ?_
  refine s_for (fun _ => rfl) (fun _ _ => rfl) hR.handled ?_
  walk_at "xs"
  refine ⟨_, _, fun i m' H' => LI L x hn ca n ns N m' H' A D M ps al, .list h₀.learned, I, ?_, ?_⟩
  · rintro i v m' H' hv I' hK v' hv'
    obtain ⟨l, hl, rfl⟩ : ∃ l, A.lrn[i]? = some l ∧ v = .ref l := by
      rw [List.getElem?_map] at hv; obtain ⟨k, h1, h2⟩ := Option.map_eq_some_iff.mp hv; exact ⟨k, h1, h2.symm⟩
    obtain ⟨c, hc, hlc⟩ := I'.ls.sol.lrnOf hl
    have hcm := List.mem_of_getElem? hc
    walk_at "xs"
    obtain ⟨v3, hc3⟩ := I'.ls.c3
    refine u_cell rfl rfl rfl hc3 hv' ?_
    obtain ⟨S₁, x₁⟩ := I'.ls.cell (v := some (.ref l)) (.inl rfl)
    have al₁ := I'.mods.stp I'.ls x₁
    have hc1 := AHeap.set_same H' (L + 1 + 1 + 1) (.cell (some (.ref l)))
    have hl₁ := (x₁ l _ hlc (I'.ls.sol.tup_own hlc) (hot_tuple I'.ls hlc)).1
    generalize H'.set (L + 1 + 1 + 1) (.cell (some (.ref l))) = H₁ at *
    have hm2' := I'.av
    walk_at "xs"
    refine e_comp (cells := fun _ => []) hR.handled (fun _ _ => rfl) (fun _ => rfl) rfl rfl (by decide) (newEnvOk0 rfl (by decide)) ?_
    walk_at "xs"
    refine ⟨_, _, fun C j ys H'' => H'' = H₁ ∧ ys = ((ps.take j).map fun p => c.any (litT p.2)).map vb, .list al₁.at', by rw [List.length_map]; have := I.lp; (first | lia | omega), fun C _ hC => ⟨⟨rfl, rfl⟩, al₁.at', ?_⟩, ?_⟩
    · rintro j v ys mC H'' hv ⟨rfl, rfl⟩ hK v' hv'
      obtain ⟨p, hp, rfl⟩ : ∃ p, ps[j]? = some p ∧ v = .ref p.1 := by
        rw [List.getElem?_map] at hv; obtain ⟨k, h1, h2⟩ := Option.map_eq_some_iff.mp hv; exact ⟨k, h1, h2.symm⟩
      have hpm := List.mem_of_getElem? hp
      have hpl := (I.md.len p hpm).1
      walk_at "xs"
      refine jt_nil ?_
      walk_at "xs"
      refine CA.oc (true_c hl₁ (al₁.it p hpm).1 (fun l hl => by have := (I.base.lit c hcm l hl).2; have := I.dn; (first | lia | omega)) (by have := I.dn; have := I.base.n5; (first | lia | omega)) (hR.le (by decide)) ?_)
      exact ⟨⟨rfl, by rw [take_succ' hp, List.map_append, List.map_append]; rfl⟩, hK⟩
    · rintro C ys H'' Db ⟨rfl, rfl⟩ hDb
      rw [List.length_map, List.take_length]
      obtain ⟨S₂, x₂⟩ := S₁.fresh (c := .list ((ps.map fun p => c.any (litT p.2)).map vb)) hDb
      have al₂ := al₁.stp S₁ x₂
      have hD₂ := AHeap.set_same H'' Db (.list ((ps.map fun p => c.any (litT p.2)).map vb))
      generalize H''.set Db (.list ((ps.map fun p => c.any (litT p.2)).map vb)) = H₂ at *
      refine o_inb hD₂ ?_
      rw [show (ps.map fun p => c.any (litT p.2)).any (· == false) = false by
        rw [List.any_eq_false]
        intro b hb
        obtain ⟨p, hp, rfl⟩ := List.mem_map.mp hb
        rw [any_sat.mpr (I.base.lrn c hcm _ (I.md.sound p hp))]; decide]
      walk_at "xs"
      exact ⟨⟨I'.sv, I'.av, I.dn, S₂, I.base, al₂, I.md, I.lp⟩, S₂.sol.learned⟩
  · rintro m' H' I'
    have hm1' := I'.sv
    have hm2' := I'.av
    have h' := I'.ls.sol
    walk_at "xs"
    refine CA.oc (solve_c (T := 167) (As := []) (most := 100000) h' I'.base (by (first | lia | omega)) (.inr ⟨rfl, at_none _⟩) (by simp) (fun l h => by cases h) (hR.le (by decide)) (.inr ⟨rfl, rfl, rfl⟩) fun A₁ H₁₀ D₁ v h₁₀ e₁₀ hn₁₀ B₁₀ ans => ?_)
    obtain ⟨S₁₀, x₁₀⟩ := I'.ls.ext h₁₀ e₁₀ hn₁₀
    have al₁₀ := I'.mods.stp I'.ls x₁₀
    have hb : v = vb (!ps.isEmpty) := by
      rcases ans with ⟨_, h⟩ | ⟨rfl, h⟩ | ⟨rfl, σ, h, _, _⟩
      · (first | lia | omega)
      · cases hps : ps with
        | nil => rfl
        | cons p r => exact absurd (fun l h => by cases h) (h _ (I.md.sound p (by rw [hps]; simp)))
      · obtain ⟨p, hp, _⟩ := I.md.compl σ h
        cases hps : ps with
        | nil => rw [hps] at hp; cases hp
        | cons p r => rfl
    subst hb
    walk_at "xs"
    refine ⟨by simp, fun E hE => ?_⟩
    have hE₁₁ := AHeap.set_same H₁₀ E (.list [])
    have hal := set_cell (c' := .list []) al₁₀.at' hE
    refine o_ne_nil hR.units' hal hE₁₁ ?_
    rw [List.isEmpty_map]
    walk_at "xs"
    show Flow.ret (vb _) = _
    rw [beq_self_eq_true]
/-- the law's loop -/
theorem law_loop {fa : Addr} {cd : Value} {ns : List Int} {x hn ca : Addr} {n : Nat} (hR : Rm A₀ 12) :
    LawAt (at_law a.w.params) fun name body scope => ∀ m H A D M ps al, LI L x hn ca n ns 0 m H A D M ps al →
      JS a A₀ L m (execs (body.drop 5) (envOfC name scope L fa cd)) H QT := by
  have hturn := fun N (hN : N ≤ 1500) => law_turn (a := a) (A₀ := A₀) (L := L) (fa := fa) (cd := cd) (ns := ns) (x := x) (hn := hn) (ca := ca) (n := n) (N := N) hN hR
  have hend := fun N (hN : N ≤ 1500) => law_end (a := a) (A₀ := A₀) (L := L) (fa := fa) (cd := cd) (ns := ns) (x := x) (hn := hn) (ca := ca) (n := n) (N := N) hN hR
  delta LawAt at *
  intro m H A D M ps al I
  have cc1 := I.ls.c1
  show JS a A₀ L m (execs (_ :: _) _) H _
  refine s_cons ?_
  refine s_for (fun _ => rfl) (fun _ _ => rfl) hR.handled ?_
  walk_at "xs"
  refine CA.oc (pick_c I.ls.hand (by decide) (by decide) (hR.le (by decide)) fun H₁ r I₁ f₁ r0 r1 => ?_)
  obtain ⟨S₁, e₁⟩ := I.ls.pick I₁ f₁
  have al₁ := I.mods.stp I.ls e₁
  walk_at "xs"
  obtain ⟨k, hk, hk14⟩ : ∃ k : Nat, 1 + r = k ∧ k ≤ 14 := ⟨(1 + r).toNat, by (first | lia | omega), by (first | lia | omega)⟩
  rw [hk]
  refine c_range1 fun Rg hRg => ?_
  obtain ⟨S₂, e₂⟩ := S₁.fresh (c := .range 0 (k : Int)) hRg
  have al₂ := al₁.stp S₁ e₂
  have hrg := AHeap.set_same H₁ Rg (.range 0 (k : Int))
  generalize H₁.set Rg (.range 0 (k : Int)) = H₂ at *
  refine ⟨_, _, fun i m' H' => ∃ A' D' M' ps' al', LI L x hn ca n ns (40 * i) m' H' A' D' M' ps' al', .range hrg (natAbs_small (by (first | lia | omega)) (by (first | lia | omega))) (natAbs_small (by (first | lia | omega)) (by (first | lia | omega))), ⟨A, D, M, ps, al, I.sv, I.av, I.dn, S₂, I.base, al₂, I.md, I.lp⟩, ?_, ?_⟩
  · rintro i v m' H' hv ⟨A', D', M', ps', al', I'⟩ hK v' hv'
    obtain ⟨rfl, hi⟩ := rangeV_inv hv
    refine u_name ?_
    refine u_local rfl rfl rfl hv' ?_
    have hsv := I'.sv
    have hav := I'.av
    refine JS.mono (Q := turnEnd (fun m' H' => ∃ A' D' M' ps' al', LI L x hn ca n ns (40 * i + 40) m' H' A' D' M' ps' al') QT) ?_ ?_
    · exact hturn (40 * i) (by (first | lia | omega)) _ H' A' D' M' ps' al' ⟨by walk_at "loc", by walk_at "loc", I'.dn, I'.ls, I'.base, I'.mods, I'.md, I'.lp⟩
    rintro fl m'' H'' h
    cases fl with
    | next => exact ⟨h, trivial⟩
    | cont => exact ⟨h, trivial⟩
    | brk => exact absurd h (by intro h; cases h)
    | ret v => exact h
  · rintro m' H' ⟨A', D', M', ps', al', I'⟩
    rw [rangeV_length] at I'
    exact hend _ (by (first | lia | omega)) m' H' A' D' M' ps' al' I'
/-- the law -/
theorem law_js {fa sc : Addr} {cd : Value} {H : AHeap} {its : Array Value} {ns : List Int} (hb : a.h₀.IsList sc its) (hi : its.toList.map er = ns.map vi) (hz : ns.length ≤ 63)
    (h1 : H (L + 1) = some (.cell none)) (h2 : H (L + 1 + 1) = some (.cell none)) (h3 : H (L + 1 + 1 + 1) = some (.cell none)) (h4 : H (L + 1 + 1 + 1 + 1) = some (.cell none)) (hR : Rm A₀ 12) :
    LawAt (at_law a.w.params) fun name body scope => JS a A₀ L (nl.set (Str.ofString "script") (.ref sc)) (execs body (envOfC name scope L fa cd)) H QT := by
  have hpre := law_pre (a := a) (A₀ := A₀) (L := L) (fa := fa) (cd := cd) hb hi hz h1 h2 h3 h4 hR
  have hloop := fun x hn ca n => law_loop (a := a) (A₀ := A₀) (L := L) (fa := fa) (cd := cd) (ns := ns) (x := x) (hn := hn) (ca := ca) (n := n) hR
  have halive := fun x hn ca A n (h0 : 1 ≤ n) (h5 : n ≤ 5) => law_alive (a := a) (A₀ := A₀) (L := L) (fa := fa) (cd := cd) (ns := ns) (x := x) (hn := hn) (ca := ca) (A := A) (n := n) h0 h5 hR
  delta LawAt at *
  refine hpre fun m H x hn ca A n hm hn0 hn5 S => ?_
  refine halive x hn ca A n hn0 hn5 (fun m H al ps hm1 hm2 S V hbits => ?_) m H hm S
  obtain ⟨md, lp⟩ := Mods.start hn0 hn5 hbits
  exact hloop x hn ca n m H A (D0 n) (fun _ => True) ps al ⟨hm1, hm2, rfl, S, base0 hn0 hn5, V, md, lp⟩
end
end
-- Fin
section
theorem er_ints : ∀ {us : List Value} {ns : List Int}, IntsAre us ns → us.map er = ns.map vi
  | _, _, .nil => rfl
  | _, _, .cons n t h => by rw [List.map_cons, List.map_cons, er_ints h]; rfl
def cells0 (L : Addr) : AHeap := fun b => if b = L + 1 ∨ b = L + 1 + 1 ∨ b = L + 1 + 1 + 1 ∨ b = L + 1 + 1 + 1 + 1 then some (.cell none) else none
theorem law_join {w : World} {prog : Program} {s₁ : Shared} {mg mb : Str → Option Value} {n₁ : Nat} {defs : List DefItem} {consts : List (Str × PyData)} {objs : List (Str × (Obj → Prop))} {names : List Str} (GL : Glob n₁ mg mb defs consts objs names s₁.heap) (KX : (hd.heap_39 w.params).In s₁.heap)
    {sc : Addr} {vals : List Value} {ns : List Int} (hL : s₁.heap.IsList sc vals.toArray) (hI : IntsAre vals ns) (hz : ns.length ≤ 63) {h₁ : Heap} {tk : Nat} {mv : Str → Option Value} (F : Fr s₁.heap s₁.heap.objs.size h₁ mv) (hm : ∀ x, (mv x).map er = (nl.set (Str.ofString "script") (.ref sc)) x)
    {o1 o2 o3 o4 : Obj} (N : News s₁.heap s₁.heap.objs.size h₁ [(s₁.heap.objs.size + 1 + 1 + 1 + 1, o4), (s₁.heap.objs.size + 1 + 1 + 1, o3), (s₁.heap.objs.size + 1 + 1, o2), (s₁.heap.objs.size + 1, o1)])
    (d1 : o1.data = .cell none) (d2 : o2.data = .cell none) (d3 : o3.data = .cell none) (d4 : o4.data = .cell none) {fa : Addr} {cd : Value} {Q : Flow → Shared → Prop} {E : Value → Shared → Prop} {env : Env} (hQ : ∀ s', (∀ b o, s₁.heap.get? b = some o → s'.heap.get? b = some o) → s'.os = s₁.os → s'.gens = s₁.gens → Q (.ret (.bool true)) s') :
    LawAt (at_law w.params) fun name body scope => wpAny (model prog w) (callerA.deeper env) (execs body (envOfC name scope s₁.heap.objs.size fa cd)) Q E { s₁ with heap := h₁, toks := tk } := by
  have a : ∃ a : Amb hd.heap_39, a.prog = prog ∧ a.w = w ∧ a.h₀ = s₁.heap := ⟨⟨prog, w, s₁.heap, KX, mg, mb, GL.g, GL.b, GL.builtins, GL.nolimit⟩, rfl, rfl, rfl⟩
  obtain ⟨a, rfl, rfl, ha⟩ := a
  have hR : Rm (callerA.deeper env) 12 := Rm.deeper (A := callerA) (d := 12) ⟨rfl, by decide +kernel, by decide +kernel⟩ env
  have hJ := law_js (a := a) (A₀ := callerA.deeper env) (L := s₁.heap.objs.size) (fa := fa) (cd := cd) (H := cells0 s₁.heap.objs.size) (sc := sc) (by rw [ha]; exact hL) (er_ints hI) hz (by simp [cells0]) (by simp [cells0]) (by simp [cells0]) (by simp [cells0]) hR
  delta LawAt at *
  have S : St a s₁.heap.objs.size (nl.set (Str.ofString "script") (.ref sc)) (cells0 s₁.heap.objs.size) { s₁ with heap := h₁, toks := tk } := by
    refine ⟨⟨mv, by rw [ha]; exact F, hm⟩, fun b c hb => ?_⟩
    unfold cells0 at hb
    have key : ∀ (b : Addr) (o : Obj), (b, o) ∈ [(s₁.heap.objs.size + 1 + 1 + 1 + 1, o4), (s₁.heap.objs.size + 1 + 1 + 1, o3), (s₁.heap.objs.size + 1 + 1, o2), (s₁.heap.objs.size + 1, o1)] → o.data = .cell none → b ≠ s₁.heap.objs.size ∧ a.h₀.get? b = none ∧ ∃ o, h₁.get? b = some o ∧ CellAt (.cell none) o := fun b o hm hd => by
      obtain ⟨h1, h2, h3⟩ := N _ hm
      exact ⟨h2, by rw [ha]; exact h3, o, h1, none, hd, rfl⟩
    split at hb
    · rename_i h
      cases hb
      rcases h with rfl | rfl | rfl | rfl
      · exact key _ o1 (by simp) d1
      · exact key _ o2 (by simp) d2
      · exact key _ o3 (by simp) d3
      · exact key _ o4 (by simp) d4
    · cases hb
  refine wpAny_mono (hJ _ S) (fun fl s' ⟨m', H', S', T', q⟩ => ?_) fun _ _ x => x.elim
  have : fl = .ret (.bool true) := by
    unfold QT at q
    cases fl with
    | ret v =>
      simp only [erF, Flow.ret.injEq] at q
      rw [er_bool q]
    | _ => simp [erF] at q
  rw [this]; exact hQ s' (by have := S'.keep; rw [ha] at this; exact this) T'.os T'.gens
end
end Mine
theorem PySem.Challenge.cw_nn0314_01_holds : PySem.Challenge.rw_nn0314_01.Holds := by
  refine Mine.hd ?_
  k_go0
  rename Glob _ _ _ _ _ _ _ _ => GL
  rename Frag.In _ _ => KX
  rename Heap.IsList _ _ _ => hL
  rename IntsAre _ _ => hI
  rename Fr _ _ _ _ => F
  rename News _ _ _ _ => N
  rename CellsAre _ _ _ => X
  have hz : _ ≤ 63 := Nat.not_lt.mp fun h => by
    rename ¬ _ < _ => hc
    exact hc (by exact_mod_cast h)
  refine Mine.law_join GL KX hL hI hz F ?hm N ?d1 ?d2 ?d3 ?d4 ?hQ
  case hm =>
    intro x
    show Option.map Mine.er (if x = Str.ofString "script" then some _ else none) = (if x = Str.ofString "script" then some _ else none)
    split <;> rfl
  case d1 => assumption
  case d2 => assumption
  case d3 => assumption
  case d4 => assumption
  case hQ =>
    intro s' hk ho hg'
    rename _ = #[] => hg
    refine ⟨.inl ⟨_, .bool true, [], rfl, ?_, .bool true, ?_, ?_⟩, hk, ho, hg'.trans hg⟩
    · intro cls; rfl
    · wrow_post
    · intro _; exact ⟨List.nodup_nil, fun a h => by cases h⟩
