import PyProof.Rows.All
import Wide.All
import OpenK.AllK
import Wide.FinOn
import PySem.Challenge.RW_sq0053_01
open PySem PySem.W PyProof.Rows PySem.Calls
set_option Elab.async false
set_option maxRecDepth 100000
set_option linter.all false
set_option compiler.extract_closed false
namespace Mine

-- MBase
noncomputable abbrev Led := List (Addr × Obj)
/-- a frame's names, the newest first -/
noncomputable abbrev Mp := List (Str × Value)

/-- what a frame's run is laid on -/
structure Cfg where
  prog : Program
  w : World
  A : Around
  E : Value → Shared → Prop
  h₀ : Heap
  FR : Led
  env : Env
  gens : Array GenState
  drawn : Drawn
  os : OsState
noncomputable abbrev Cfg.L (c : Cfg) : Addr := c.env.locals

structure Inv (c : Cfg) (m : Mp) (H : Led) (s : Shared) : Prop where
  gens : s.gens = c.gens
  drawn : s.drawn = c.drawn
  os : s.os = c.os
  Fx : ∃ μ, Fr c.h₀ c.L s.heap μ ∧ ∀ y v, m.lookup y = some v → μ y = some v
  N : News c.h₀ c.L s.heap (H ++ c.FR)
  ap : ∀ p ∈ H, ∀ q ∈ c.FR, p.1 ≠ q.1

noncomputable def W {α : Type} (c : Cfg) (t : Sem α) (m : Mp) (H : Led) (P : α → Mp → Led → Prop) : Prop :=
  ∀ s, Inv c m H s → wpAny (model c.prog c.w) c.A t (fun v s' => ∃ m' H', Inv c m' H' s' ∧ P v m' H') c.E s

section
variable {α β : Type} {c : Cfg} {m : Mp} {H : Led}

noncomputable def Inv.mu {s : Shared} (I : Inv c m H s) : Str → Option Value := Classical.choose I.Fx
theorem Inv.F {s : Shared} (I : Inv c m H s) : Fr c.h₀ c.L s.heap I.mu := (Classical.choose_spec I.Fx).1
theorem Inv.kn {s : Shared} (I : Inv c m H s) : ∀ y v, m.lookup y = some v → I.mu y = some v := (Classical.choose_spec I.Fx).2
theorem Inv.upto {s : Shared} (I : Inv c m H s) {h' : Heap} {tk : Nat} {m' : Mp} {H' : Led} {μ : Str → Option Value} (F : Fr c.h₀ c.L h' μ) (kn : ∀ y v, m'.lookup y = some v → μ y = some v) (N : News c.h₀ c.L h' (H' ++ c.FR)) (ap : ∀ p ∈ H', ∀ q ∈ c.FR, p.1 ≠ q.1) :
    Inv c m' H' { s with heap := h', toks := tk } := ⟨I.gens, I.drawn, I.os, ⟨_, F, kn⟩, N, ap⟩
theorem Inv.tk {s : Shared} (I : Inv c m H s) (tk : Nat) : Inv c m H { s with toks := tk } := ⟨I.gens, I.drawn, I.os, I.Fx, I.N, I.ap⟩
theorem Inv.lt {s : Shared} (I : Inv c m H s) : ∀ p ∈ H ++ c.FR, p.1 < s.heap.objs.size := fun p hp => Heap.lt_size (I.N p hp).1
theorem Inv.at_ {s : Shared} (I : Inv c m H s) {a : Addr} {o : Obj} (h : (a, o) ∈ H) : s.heap.get? a = some o := (I.N _ (List.mem_append_left _ h)).1

theorem W_mono {t : Sem α} {P P' : α → Mp → Led → Prop} (h : W c t m H P) (hp : ∀ v m' H', P v m' H' → P' v m' H') : W c t m H P' :=
  fun s I => wpAny_mono (h s I) (fun _ _ ⟨m', H', I', p⟩ => ⟨m', H', I', hp _ _ _ p⟩) fun _ _ e => e
theorem W_pure {a : α} {P : α → Mp → Led → Prop} (h : P a m H) : W c (pure a) m H P := fun _ I => wpAny_pure ⟨m, H, I, h⟩
theorem W_bind {t : Sem α} {f : α → Sem β} {P : β → Mp → Led → Prop} (h : W c t m H fun v m' H' => W c (f v) m' H' P) : W c (t >>= f) m H P :=
  fun s I => wpAny_bind (wpAny_mono (h s I) (fun _ _ ⟨_, _, I', p⟩ => p _ I') fun _ _ e => e)
theorem W_use {t : Sem α} {P : α → Mp → Led → Prop} (h : W c t m H P) {s : Shared} (I : Inv c m H s) {Q : α → Shared → Prop} (k : ∀ v s' m' H', Inv c m' H' s' → P v m' H' → Q v s') :
    wpAny (model c.prog c.w) c.A t Q c.E s := wpAny_mono (h s I) (fun v s' ⟨m', H', I', p⟩ => k v s' m' H' I' p) fun _ _ e => e

/-- less may be known of the frame's names -/
theorem W_know {t : Sem α} {m' : Mp} {P : α → Mp → Led → Prop} (hk : ∀ y v, m'.lookup y = some v → m.lookup y = some v) (h : W c t m' H P) : W c t m H P := fun s I =>
  h s ⟨I.gens, I.drawn, I.os, ⟨I.mu, I.F, fun y v e => I.kn y v (hk y v e)⟩, I.N, I.ap⟩
-- values
theorem W_int {i : Int} {k : Nat} {pos : Pos} {P : Value → Mp → Led → Prop} (h : ∀ t, P (.int i t) m H) : W c (eval (.Constant (.int i) k pos) c.env) m H P :=
  fun s I => wpAny_Constant_int ⟨m, H, I.tk _, h _⟩
theorem W_binop {l r : Expr} {op : Operator} {pos : Pos} {P : Value → Mp → Led → Prop}
    (h : W c (eval l c.env) m H fun a m₁ H₁ => W c (eval r c.env) m₁ H₁ fun b m₂ H₂ => W c (binaryOp op a b) m₂ H₂ P) : W c (eval (.BinOp l op r pos) c.env) m H P :=
  fun _ I => wpAny_BinOp (W_use h I fun _ _ _ _ I₁ h₁ => W_use h₁ I₁ fun _ _ _ _ I₂ h₂ => h₂ _ I₂)
theorem W_unop {x : Expr} {op : UnaryOp} {pos : Pos} {P : Value → Mp → Led → Prop} (h : W c (eval x c.env) m H fun a m₁ H₁ => W c (unaryOp op a) m₁ H₁ P) : W c (eval (.UnaryOp op x pos) c.env) m H P :=
  fun _ I => wpAny_UnaryOp (W_use h I fun _ _ _ _ I₁ h₁ => h₁ _ I₁)
theorem W_cmp1 {l r : Expr} {op : CmpOp} {pos : Pos} {P : Value → Mp → Led → Prop}
    (h : W c (eval l c.env) m H fun a m₁ H₁ => W c (eval r c.env) m₁ H₁ fun b m₂ H₂ => W c (compareOp op a b) m₂ H₂ P) (hm : behindInMarks op r = false := by with_unfolding_all rfl) : W c (eval (.Compare l [op] [r] pos) c.env) m H P :=
  fun _ I => wpAny_Compare1 (W_use h I fun _ _ _ _ I₁ h₁ => W_use h₁ I₁ fun _ _ _ _ I₂ h₂ => h₂ _ I₂) hm
theorem W_ifexp {t b o : Expr} {pos : Pos} {P : Value → Mp → Led → Prop} (h : W c (isTrue t c.env (eval t c.env)) m H fun x m₁ H₁ => if x then W c (eval b c.env) m₁ H₁ P else W c (eval o c.env) m₁ H₁ P) : W c (eval (.IfExp t b o pos) c.env) m H P :=
  fun _ I => wpAny_IfExp (W_use h I fun b _ _ _ I₁ h₁ => by cases b <;> exact h₁ _ I₁)
-- tests
theorem T_cmp1 {l r : Expr} {op : CmpOp} {pos : Pos} {whole : Sem Value} {P : Bool → Mp → Led → Prop}
    (h : W c (eval l c.env) m H fun a m₁ H₁ => W c (eval r c.env) m₁ H₁ fun b m₂ H₂ => W c (compareOp op a b) m₂ H₂ fun v m₃ H₃ => W c (truthy v) m₃ H₃ P) (hm : behindInMarks op r = false := by with_unfolding_all rfl) :
    W c (isTrue (.Compare l [op] [r] pos) c.env whole) m H P :=
  fun _ I => wpAny_isTrue_Compare1 (W_use h I fun _ _ _ _ I₁ h₁ => W_use h₁ I₁ fun _ _ _ _ I₂ h₂ => W_use h₂ I₂ fun _ _ _ _ I₃ h₃ => h₃ _ I₃) hm
theorem T_not {x : Expr} {pos : Pos} {whole : Sem Value} {P : Bool → Mp → Led → Prop} (h : W c (isTrue x c.env (eval x c.env)) m H fun b m₁ H₁ => P (!b) m₁ H₁) : W c (isTrue (.UnaryOp .Not x pos) c.env whole) m H P :=
  fun _ I => wpAny_isTrue_Not (W_use h I fun _ _ _ _ I₁ h₁ => ⟨_, _, I₁, h₁⟩)
theorem T_bool {b : Bool} {P : Bool → Mp → Led → Prop} (h : P b m H) : W c (truthy (.bool b)) m H P := fun _ I => wpAny_truthy_bool ⟨_, _, I, h⟩
-- statements
theorem S_nil {P : Flow → Mp → Led → Prop} (h : P .next m H) : W c (execs [] c.env) m H P := fun _ I => wpAny_execs_nil ⟨_, _, I, h⟩
theorem S_cons {st : Stmt} {rest : List Stmt} {P : Flow → Mp → Led → Prop}
    (h : W c (exec st c.env) m H fun f m₁ H₁ => match f with | .next => W c (execs rest c.env) m₁ H₁ P | f => P f m₁ H₁) : W c (execs (st :: rest) c.env) m H P :=
  fun _ I => wpAny_execs_cons (W_use h I fun f _ _ _ I₁ h₁ => by cases f <;> first | exact h₁ _ I₁ | exact ⟨_, _, I₁, h₁⟩)
theorem S_if {t : Expr} {b o : List Stmt} {pos : Pos} {P : Flow → Mp → Led → Prop}
    (h : W c (isTrue t c.env (eval t c.env)) m H fun x m₁ H₁ => if x then W c (execs b c.env) m₁ H₁ P else W c (execs o c.env) m₁ H₁ P) : W c (exec (.If t b o pos) c.env) m H P :=
  fun _ I => wpAny_If (W_use h I fun b _ _ _ I₁ h₁ => by cases b <;> exact h₁ _ I₁)
theorem S_ret {e : Expr} {pos : Pos} {P : Flow → Mp → Led → Prop} (h : W c (eval e c.env) m H fun v m₁ H₁ => P (.ret v) m₁ H₁) : W c (exec (.Return (some e) pos) c.env) m H P :=
  fun _ I => wpAny_Return_some (W_use h I fun _ _ _ _ I₁ h₁ => ⟨_, _, I₁, h₁⟩)

-- ints
section
variable {a b : Int} {t u : Tok} {P : Value → Mp → Led → Prop}
theorem V_add (h : ∀ k, P (.int (a + b) k) m H) : W c (binaryOp .Add (.int a t) (.int b u)) m H P := fun _ I => PyProof.Rows.add_int ⟨m, H, I.tk _, h _⟩
theorem V_sub (h : ∀ k, P (.int (a - b) k) m H) : W c (binaryOp .Sub (.int a t) (.int b u)) m H P := fun _ I => PyProof.Rows.sub_int ⟨m, H, I.tk _, h _⟩
theorem V_mul (h : ∀ k, P (.int (a * b) k) m H) (hm : IntMulOk a b := by mul_fits) : W c (binaryOp .Mult (.int a t) (.int b u)) m H P := fun _ I => PyProof.Rows.mul_int ⟨m, H, I.tk _, h _⟩ hm
theorem V_mod (hb : b ≠ 0) (h : ∀ k, P (.int (a.fmod b) k) m H) : W c (binaryOp .Mod (.int a t) (.int b u)) m H P := fun _ I => PyProof.Rows.mod_int' hb ⟨m, H, I.tk _, h _⟩
theorem V_div (hb : b ≠ 0) (hp : Builtin.divisionGoesByPylong a b = false) (h : ∀ k, P (.int (a.fdiv b) k) m H) : W c (binaryOp .FloorDiv (.int a t) (.int b u)) m H P := fun _ I => PyProof.Rows.floordiv_int hb ⟨m, H, I.tk _, h _⟩ (.inl hp)
theorem V_iadd (h : ∀ k, P (.int (a + b) k) m H) : W c (inplaceOp .Add (.int a t) (.int b u)) m H P := fun _ I => PyProof.Rows.iadd_int ⟨m, H, I.tk _, h _⟩
theorem V_neg (h : ∀ k, P (.int (-a) k) m H) : W c (unaryOp .USub (.int a t)) m H P := fun _ I => PyProof.Rows.neg_int ⟨m, H, I.tk _, h _⟩
theorem V_eq (h : P (.bool (a == b)) m H) : W c (compareOp .Eq (.int a t) (.int b u)) m H P := fun _ I => PyProof.Rows.eq_int ⟨m, H, I, h⟩
theorem V_ne (h : P (.bool (a != b)) m H) : W c (compareOp .NotEq (.int a t) (.int b u)) m H P := fun _ I => PyProof.Rows.ne_int ⟨m, H, I, h⟩
theorem V_lt (h : P (.bool (decide (a < b))) m H) : W c (compareOp .Lt (.int a t) (.int b u)) m H P := fun _ I => PyProof.Rows.lt_int ⟨m, H, I, h⟩
theorem V_le (h : P (.bool (decide (a ≤ b))) m H) : W c (compareOp .LtE (.int a t) (.int b u)) m H P := fun _ I => PyProof.Rows.le_int ⟨m, H, I, h⟩
theorem V_gt (h : P (.bool (decide (b < a))) m H) : W c (compareOp .Gt (.int a t) (.int b u)) m H P := fun _ I => PyProof.Rows.gt_int ⟨m, H, I, h⟩
theorem V_ge (h : P (.bool (decide (b ≤ a))) m H) : W c (compareOp .GtE (.int a t) (.int b u)) m H P := fun _ I => PyProof.Rows.ge_int ⟨m, H, I, h⟩
end
-- names
section
variable {x : Str} {v : Value} {pos : Pos} {sc : Scope}
theorem know_store {y : Str} {μ : Str → Option Value} (h : ∀ z u, m.lookup z = some u → μ z = some u) : ∀ z u, List.lookup z ((y, v) :: m) = some u → (if z = y then some v else μ z) = some u := by
  intro z u e
  rw [List.lookup_cons] at e
  by_cases q : z = y
  · subst q; rw [if_pos rfl]; simpa using e
  · rw [if_neg q]; rw [beq_false_of_ne q] at e; exact h z u e
theorem W_loc {P : Value → Mp → Led → Prop} (hs : c.env.scope = sc) (hk : sc.kind = .function) (hl : sc.names.lookup x = some .local) (hv : m.lookup x = some v) (h : P v m H)
    (hd : (x == ("__debug__" : Str)) = false := by decide) : W c (eval (.Name x pos) c.env) m H P :=
  fun _ I => wpAny_Name (wpAny_loadName_local (by rw [hs]; exact hk) (by unfold Env.kindOf; rw [hs]; exact hl) I.F.ns (I.kn _ _ hv) ⟨m, H, I, h⟩) hd
theorem S_store {P : Unit → Mp → Led → Prop} (hs : c.env.scope = sc) (hk : sc.kind = .function) (hl : sc.names.lookup x = some .local) (h : P () ((x, v) :: m) H) : W c (storeName c.env x v) m H P :=
  fun s I => wpAny_storeName_local (by unfold Env.kindOf; rw [hs]; exact hl) I.F.ns
    (fun h' hn hsb => ⟨(x, v) :: m, H, I.upto (I.F.set hn hsb) (know_store I.kn) (I.N.set hsb) I.ap, h⟩)
    (by show (c.env.scope.kind == .class || (c.env.scope.kind == .module && _)) = false; rw [hs, hk]; rfl)
theorem S_assign {e : Expr} {px : Pos} {P : Flow → Mp → Led → Prop} (h : W c (eval e c.env) m H fun v m₁ H₁ => W c (storeName c.env x v) m₁ H₁ fun _ m₂ H₂ => P .next m₂ H₂)
    (hs : swapsWith e (some (.Name x px)) pos.line c.env = pure false := by rfl) : W c (exec (.Assign [.Name x px] e pos) c.env) m H P :=
  fun _ I => wpAny_Assign_Name (W_use h I fun _ _ _ _ I₁ h₁ => W_use h₁ I₁ fun _ _ _ _ I₂ h₂ => ⟨_, _, I₂, h₂⟩) hs
theorem S_aug {e : Expr} {op : Operator} {px : Pos} {P : Flow → Mp → Led → Prop}
    (h : W c (loadName c.env x) m H fun a m₁ H₁ => W c (eval e c.env) m₁ H₁ fun b m₂ H₂ => W c (inplaceOp op a b) m₂ H₂ fun r m₃ H₃ => W c (storeName c.env x r) m₃ H₃ fun _ m₄ H₄ => P .next m₄ H₄) :
    W c (exec (.AugAssign (.Name x px) op e pos) c.env) m H P :=
  fun _ I => wpAny_AugAssign_Name (W_use h I fun _ _ _ _ I₁ h₁ => W_use h₁ I₁ fun _ _ _ _ I₂ h₂ => W_use h₂ I₂ fun _ _ _ _ I₃ h₃ => W_use h₃ I₃ fun _ _ _ _ I₄ h₄ => ⟨_, _, I₄, h₄⟩)
theorem L_loc {P : Value → Mp → Led → Prop} (hs : c.env.scope = sc) (hk : sc.kind = .function) (hl : sc.names.lookup x = some .local) (hv : m.lookup x = some v) (h : P v m H) : W c (loadName c.env x) m H P :=
  fun _ I => wpAny_loadName_local (by rw [hs]; exact hk) (by unfold Env.kindOf; rw [hs]; exact hl) I.F.ns (I.kn _ _ hv) ⟨m, H, I, h⟩
end
end

-- MK
noncomputable def stAt (i : Nat) : Stmt := PySem.Challenge.pw_sq0053_01.main.body.getD i (.Pass default)
noncomputable def mAt (i j : Nat) : Stmt := match stAt i with | .ClassDef _ _ _ b .. => b.getD j (.Pass default) | s => s
noncomputable def parOf : Stmt → Arguments | .FunctionDef _ a .. => a | _ => default
noncomputable def bodOf : Stmt → List Stmt | .FunctionDef _ _ b .. => b | _ => []
noncomputable def scoOf : Stmt → Scope | .FunctionDef _ _ _ _ _ _ s .. => s | _ => default
noncomputable def k2 (P : Params) : Obj := ⟨.none, none, .dict [].toArray 0, [].toArray⟩
noncomputable def k3 (P : Params) : Obj := ⟨.type "dict", none, .dict [⟨PyData.keyHash P (Str.ofString "__name__"), .str (Str.ofString "__name__") 165, .str (Str.ofString "law_sq0053_01") 1055⟩, ⟨PyData.keyHash P (Str.ofString "__doc__"), .str (Str.ofString "__doc__") 166, .none⟩, ⟨PyData.keyHash P (Str.ofString "__package__"), .str (Str.ofString "__package__") 167, .none⟩, ⟨PyData.keyHash P (Str.ofString "__loader__"), .str (Str.ofString "__loader__") 168, .builtin "__main__.__loader__#opaque"⟩, ⟨PyData.keyHash P (Str.ofString "__spec__"), .str (Str.ofString "__spec__") 169, .none⟩, ⟨PyData.keyHash P (Str.ofString "__annotations__"), .str (Str.ofString "__annotations__") 170, .ref 6⟩, ⟨PyData.keyHash P (Str.ofString "__builtins__"), .str (Str.ofString "__builtins__") 171, .ref 4⟩, ⟨PyData.keyHash P (Str.ofString "__file__"), .str (Str.ofString "__file__") 173, .str (Str.ofString "/claim/cut.py") 172⟩, ⟨PyData.keyHash P (Str.ofString "__cached__"), .str (Str.ofString "__cached__") 174, .none⟩, ⟨PyData.keyHash P (Str.ofString "_wall"), .str (Str.ofString "_wall") 193, .ref 21⟩, ⟨PyData.keyHash P (Str.ofString "LINE_SKIP"), .str (Str.ofString "LINE_SKIP") 201, .int (0) 194⟩, ⟨PyData.keyHash P (Str.ofString "BASELINE_SKIP"), .str (Str.ofString "BASELINE_SKIP") 202, .int (1) 195⟩, ⟨PyData.keyHash P (Str.ofString "PAR_SKIP"), .str (Str.ofString "PAR_SKIP") 203, .int (2) 196⟩, ⟨PyData.keyHash P (Str.ofString "ABOVE_DISPLAY_SKIP"), .str (Str.ofString "ABOVE_DISPLAY_SKIP") 204, .int (3) 197⟩, ⟨PyData.keyHash P (Str.ofString "BELOW_DISPLAY_SKIP"), .str (Str.ofString "BELOW_DISPLAY_SKIP") 205, .int (4) 198⟩, ⟨PyData.keyHash P (Str.ofString "LEFT_SKIP"), .str (Str.ofString "LEFT_SKIP") 206, .int (5) 199⟩, ⟨PyData.keyHash P (Str.ofString "RIGHT_SKIP"), .str (Str.ofString "RIGHT_SKIP") 207, .int (6) 200⟩, ⟨PyData.keyHash P (Str.ofString "IGNORE_DEPTH"), .str (Str.ofString "IGNORE_DEPTH") 210, .int (-65536000) 209⟩, ⟨PyData.keyHash P (Str.ofString "PageError"), .str (Str.ofString "PageError") 240, .ref 43⟩, ⟨PyData.keyHash P (Str.ofString "BadArgument"), .str (Str.ofString "BadArgument") 256, .ref 56⟩, ⟨PyData.keyHash P (Str.ofString "Overflow"), .str (Str.ofString "Overflow") 272, .ref 68⟩, ⟨PyData.keyHash P (Str.ofString "TooDeep"), .str (Str.ofString "TooDeep") 288, .ref 80⟩, ⟨PyData.keyHash P (Str.ofString "UNITY"), .str (Str.ofString "UNITY") 292, .int (65536) 291⟩, ⟨PyData.keyHash P (Str.ofString "MAX_DIMEN"), .str (Str.ofString "MAX_DIMEN") 298, .int (1073741823) 297⟩, ⟨PyData.keyHash P (Str.ofString "MAX_NUMBER"), .str (Str.ofString "MAX_NUMBER") 304, .int (2147483647) 303⟩, ⟨PyData.keyHash P (Str.ofString "INF_BAD"), .str (Str.ofString "INF_BAD") 306, .int (10000) 305⟩, ⟨PyData.keyHash P (Str.ofString "NORMAL"), .str (Str.ofString "NORMAL") 311, .int (0) 307⟩, ⟨PyData.keyHash P (Str.ofString "FIL"), .str (Str.ofString "FIL") 312, .int (1) 308⟩, ⟨PyData.keyHash P (Str.ofString "FILL"), .str (Str.ofString "FILL") 313, .int (2) 309⟩, ⟨PyData.keyHash P (Str.ofString "FILLL"), .str (Str.ofString "FILLL") 314, .int (3) 310⟩, ⟨PyData.keyHash P (Str.ofString "is_whole"), .str (Str.ofString "is_whole") 323, .ref 93⟩, ⟨PyData.keyHash P (Str.ofString "check_whole"), .str (Str.ofString "check_whole") 330, .ref 100⟩, ⟨PyData.keyHash P (Str.ofString "check_number"), .str (Str.ofString "check_number") 337, .ref 107⟩, ⟨PyData.keyHash P (Str.ofString "check_dimen"), .str (Str.ofString "check_dimen") 344, .ref 114⟩, ⟨PyData.keyHash P (Str.ofString "rounded"), .str (Str.ofString "rounded") 352, .ref 121⟩, ⟨PyData.keyHash P (Str.ofString "reading"), .str (Str.ofString "reading") 360, .ref 128⟩, ⟨PyData.keyHash P (Str.ofString "decimal_text"), .str (Str.ofString "decimal_text") 373, .ref 135⟩, ⟨PyData.keyHash P (Str.ofString "times"), .str (Str.ofString "times") 382, .ref 142⟩, ⟨PyData.keyHash P (Str.ofString "times_scaled"), .str (Str.ofString "times_scaled") 383, .ref 142⟩, ⟨PyData.keyHash P (Str.ofString "over"), .str (Str.ofString "over") 393, .ref 149⟩, ⟨PyData.keyHash P (Str.ofString "over_scaled"), .str (Str.ofString "over_scaled") 394, .ref 149⟩, ⟨PyData.keyHash P (Str.ofString "badness"), .str (Str.ofString "badness") 403, .ref 156⟩, ⟨PyData.keyHash P (Str.ofString "order_text"), .str (Str.ofString "order_text") 410, .ref 163⟩, ⟨PyData.keyHash P (Str.ofString "part_text"), .str (Str.ofString "part_text") 419, .ref 170⟩, ⟨PyData.keyHash P (Str.ofString "Glue"), .str (Str.ofString "Glue") 521, .ref 238⟩, ⟨PyData.keyHash P (Str.ofString "top_order"), .str (Str.ofString "top_order") 529, .ref 249⟩, ⟨PyData.keyHash P (Str.ofString "Totals"), .str (Str.ofString "Totals") 596, .ref 301⟩, ⟨PyData.keyHash P (Str.ofString "CHAR"), .str (Str.ofString "CHAR") 607, .int (0) 599⟩, ⟨PyData.keyHash P (Str.ofString "LIGATURE"), .str (Str.ofString "LIGATURE") 608, .int (1) 600⟩, ⟨PyData.keyHash P (Str.ofString "HBOX"), .str (Str.ofString "HBOX") 609, .int (2) 601⟩, ⟨PyData.keyHash P (Str.ofString "VBOX"), .str (Str.ofString "VBOX") 610, .int (3) 602⟩, ⟨PyData.keyHash P (Str.ofString "RULE"), .str (Str.ofString "RULE") 611, .int (4) 603⟩, ⟨PyData.keyHash P (Str.ofString "KERN"), .str (Str.ofString "KERN") 612, .int (5) 604⟩, ⟨PyData.keyHash P (Str.ofString "GLUE"), .str (Str.ofString "GLUE") 613, .int (6) 605⟩, ⟨PyData.keyHash P (Str.ofString "PENALTY"), .str (Str.ofString "PENALTY") 614, .int (7) 606⟩, ⟨PyData.keyHash P (Str.ofString "DISC"), .str (Str.ofString "DISC") 622, .int (8) 615⟩, ⟨PyData.keyHash P (Str.ofString "MARK"), .str (Str.ofString "MARK") 623, .int (9) 616⟩, ⟨PyData.keyHash P (Str.ofString "INSERT"), .str (Str.ofString "INSERT") 624, .int (10) 617⟩, ⟨PyData.keyHash P (Str.ofString "ADJUST"), .str (Str.ofString "ADJUST") 625, .int (11) 618⟩, ⟨PyData.keyHash P (Str.ofString "MATH"), .str (Str.ofString "MATH") 626, .int (12) 619⟩, ⟨PyData.keyHash P (Str.ofString "SPECIAL"), .str (Str.ofString "SPECIAL") 627, .int (13) 620⟩, ⟨PyData.keyHash P (Str.ofString "UNSET"), .str (Str.ofString "UNSET") 628, .int (14) 621⟩, ⟨PyData.keyHash P (Str.ofString "NATURAL"), .str (Str.ofString "NATURAL") 632, .int (0) 629⟩, ⟨PyData.keyHash P (Str.ofString "STRETCHED"), .str (Str.ofString "STRETCHED") 633, .int (1) 630⟩, ⟨PyData.keyHash P (Str.ofString "SHRUNK"), .str (Str.ofString "SHRUNK") 634, .int (2) 631⟩, ⟨PyData.keyHash P (Str.ofString "FONT_KERN"), .str (Str.ofString "FONT_KERN") 639, .int (0) 635⟩, ⟨PyData.keyHash P (Str.ofString "EXPLICIT"), .str (Str.ofString "EXPLICIT") 640, .int (1) 636⟩, ⟨PyData.keyHash P (Str.ofString "ACCENT_KERN"), .str (Str.ofString "ACCENT_KERN") 641, .int (2) 637⟩, ⟨PyData.keyHash P (Str.ofString "MU_KERN"), .str (Str.ofString "MU_KERN") 642, .int (3) 638⟩, ⟨PyData.keyHash P (Str.ofString "PLAIN"), .str (Str.ofString "PLAIN") 650, .int (0) 643⟩, ⟨PyData.keyHash P (Str.ofString "ALEADERS"), .str (Str.ofString "ALEADERS") 651, .int (1) 644⟩, ⟨PyData.keyHash P (Str.ofString "CLEADERS"), .str (Str.ofString "CLEADERS") 652, .int (2) 645⟩, ⟨PyData.keyHash P (Str.ofString "XLEADERS"), .str (Str.ofString "XLEADERS") 653, .int (3) 646⟩, ⟨PyData.keyHash P (Str.ofString "MU_SKIP"), .str (Str.ofString "MU_SKIP") 654, .int (4) 647⟩, ⟨PyData.keyHash P (Str.ofString "NONSCRIPT"), .str (Str.ofString "NONSCRIPT") 655, .int (5) 648⟩, ⟨PyData.keyHash P (Str.ofString "NAMED"), .str (Str.ofString "NAMED") 656, .int (100) 649⟩, ⟨PyData.keyHash P (Str.ofString "FOR_DEVICE"), .str (Str.ofString "FOR_DEVICE") 661, .int (0) 657⟩, ⟨PyData.keyHash P (Str.ofString "WRITING"), .str (Str.ofString "WRITING") 662, .int (1) 658⟩, ⟨PyData.keyHash P (Str.ofString "OPENING"), .str (Str.ofString "OPENING") 663, .int (2) 659⟩, ⟨PyData.keyHash P (Str.ofString "CLOSING"), .str (Str.ofString "CLOSING") 664, .int (3) 660⟩, ⟨PyData.keyHash P (Str.ofString "DEEPEST"), .str (Str.ofString "DEEPEST") 666, .int (60) 665⟩, ⟨PyData.keyHash P (Str.ofString "Box"), .str (Str.ofString "Box") 707, .ref 346⟩, ⟨PyData.keyHash P (Str.ofString "Rule"), .str (Str.ofString "Rule") 742, .ref 367⟩, ⟨PyData.keyHash P (Str.ofString "Kern"), .str (Str.ofString "Kern") 774, .ref 388⟩, ⟨PyData.keyHash P (Str.ofString "Skip"), .str (Str.ofString "Skip") 808, .ref 410⟩, ⟨PyData.keyHash P (Str.ofString "Penalty"), .str (Str.ofString "Penalty") 838, .ref 431⟩, ⟨PyData.keyHash P (Str.ofString "check_depth"), .str (Str.ofString "check_depth") 845, .ref 442⟩, ⟨PyData.keyHash P (Str.ofString "described_special"), .str (Str.ofString "described_special") 851, .ref 447⟩, ⟨PyData.keyHash P (Str.ofString "described_rest"), .str (Str.ofString "described_rest") 862, .ref 454⟩, ⟨PyData.keyHash P (Str.ofString "described"), .str (Str.ofString "described") 869, .ref 460⟩, ⟨PyData.keyHash P (Str.ofString "described_list"), .str (Str.ofString "described_list") 876, .ref 466⟩, ⟨PyData.keyHash P (Str.ofString "width_of"), .str (Str.ofString "width_of") 882, .ref 471⟩, ⟨PyData.keyHash P (Str.ofString "height_of"), .str (Str.ofString "height_of") 888, .ref 476⟩, ⟨PyData.keyHash P (Str.ofString "depth_of"), .str (Str.ofString "depth_of") 894, .ref 481⟩, ⟨PyData.keyHash P (Str.ofString "line_height"), .str (Str.ofString "line_height") 901, .ref 488⟩, ⟨PyData.keyHash P (Str.ofString "line_depth"), .str (Str.ofString "line_depth") 908, .ref 495⟩, ⟨PyData.keyHash P (Str.ofString "append_box"), .str (Str.ofString "append_box") 925, .ref 502⟩, ⟨PyData.keyHash P (Str.ofString "EXACTLY"), .str (Str.ofString "EXACTLY") 930, .int (0) 928⟩, ⟨PyData.keyHash P (Str.ofString "SPREAD"), .str (Str.ofString "SPREAD") 931, .int (1) 929⟩, ⟨PyData.keyHash P (Str.ofString "FINE"), .str (Str.ofString "FINE") 936, .int (0) 932⟩, ⟨PyData.keyHash P (Str.ofString "LOOSE"), .str (Str.ofString "LOOSE") 937, .int (1) 933⟩, ⟨PyData.keyHash P (Str.ofString "TIGHT"), .str (Str.ofString "TIGHT") 938, .int (2) 934⟩, ⟨PyData.keyHash P (Str.ofString "OVERFULL"), .str (Str.ofString "OVERFULL") 939, .int (3) 935⟩, ⟨PyData.keyHash P (Str.ofString "across"), .str (Str.ofString "across") 946, .ref 517⟩, ⟨PyData.keyHash P (Str.ofString "check_column"), .str (Str.ofString "check_column") 954, .ref 524⟩, ⟨PyData.keyHash P (Str.ofString "natural_column"), .str (Str.ofString "natural_column") 965, .ref 531⟩, ⟨PyData.keyHash P (Str.ofString "quotient"), .str (Str.ofString "quotient") 973, .ref 538⟩, ⟨PyData.keyHash P (Str.ofString "set_glue"), .str (Str.ofString "set_glue") 984, .ref 545⟩, ⟨PyData.keyHash P (Str.ofString "flex"), .str (Str.ofString "flex") 992, .ref 552⟩, ⟨PyData.keyHash P (Str.ofString "set_part"), .str (Str.ofString "set_part") 1000, .ref 559⟩, ⟨PyData.keyHash P (Str.ofString "part_size"), .str (Str.ofString "part_size") 1008, .ref 566⟩, ⟨PyData.keyHash P (Str.ofString "places"), .str (Str.ofString "places") 1019, .ref 573⟩, ⟨PyData.keyHash P (Str.ofString "goal_size"), .str (Str.ofString "goal_size") 1028, .ref 580⟩, ⟨PyData.keyHash P (Str.ofString "set_box"), .str (Str.ofString "set_box") 1038, .ref 587⟩, ⟨PyData.keyHash P (Str.ofString "vpack"), .str (Str.ofString "vpack") 1054, .ref 595⟩, ⟨PyData.keyHash P (Str.ofString "_law_pool"), .str (Str.ofString "_law_pool") 1066, .ref 602⟩, ⟨PyData.keyHash P (Str.ofString "_law_take"), .str (Str.ofString "_law_take") 1075, .ref 609⟩, ⟨PyData.keyHash P (Str.ofString "_law_deeds"), .str (Str.ofString "_law_deeds") 1085, .ref 616⟩, ⟨PyData.keyHash P (Str.ofString "_law_column"), .str (Str.ofString "_law_column") 1100, .ref 623⟩, ⟨PyData.keyHash P (Str.ofString "_law_rows"), .str (Str.ofString "_law_rows") 1117, .ref 630⟩, ⟨PyData.keyHash P (Str.ofString "_law_begins"), .str (Str.ofString "_law_begins") 1123, .ref 635⟩, ⟨PyData.keyHash P (Str.ofString "_law_refused"), .str (Str.ofString "_law_refused") 1132, .ref 642⟩, ⟨PyData.keyHash P (Str.ofString "law"), .str (Str.ofString "law") 1138, .ref 647⟩].toArray 123, [].toArray⟩
noncomputable def k33 (P : Params) : Obj := ⟨.type "tuple", none, .seq [.str (Str.ofString "") 225].toArray 0, [].toArray⟩
noncomputable def k39 (P : Params) : Obj := ⟨.type "code", none, .fields [.str (Str.ofString "__init__") 226, .str (Str.ofString "PageError.__init__") 227, .str (Str.ofString "/claim/cut.py") 228, .int (9) 0, .int (2) 0, .int (0) 0, .int (0) 0, .int (3) 0, .ref 34, .bool true, .int (181) 0, .ref 35, .none, .ref 36, .ref 37, .ref 38, .int (231) 0, .int (9) 0, .str (Str.ofString "/claim/cut.py") 232].toArray, [].toArray⟩
noncomputable def k40 (P : Params) : Obj := ⟨.type "function", none, .func (fnOf (Str.ofString "__init__") (Str.ofString "PageError.__init__") (parOf (mAt 4 0)) (bodOf (mAt 4 0)) (scoOf (mAt 4 0)) (.ref 33) (.none) (.none) (.str (Str.ofString "gluepage.errors") 211) none (.ref 39) (.none)), [].toArray⟩
noncomputable def k42 (P : Params) : Obj := ⟨.type "dict", none, .dict [⟨PyData.keyHash P (Str.ofString "__module__"), .str (Str.ofString "__module__") 220, .str (Str.ofString "gluepage.errors") 211⟩, ⟨PyData.keyHash P (Str.ofString "__firstlineno__"), .str (Str.ofString "__firstlineno__") 224, .int (7) 223⟩, ⟨PyData.keyHash P (Str.ofString "__init__"), .str (Str.ofString "__init__") 233, .ref 40⟩, ⟨PyData.keyHash P (Str.ofString "__static_attributes__"), .str (Str.ofString "__static_attributes__") 235, .ref 41⟩, ⟨PyData.keyHash P (Str.ofString "__weakref__"), .str (Str.ofString "__weakref__") 237, .ref 44⟩, ⟨PyData.keyHash P (Str.ofString "__doc__"), .str (Str.ofString "__doc__") 238, .none⟩].toArray 3, [].toArray⟩
noncomputable def k43 (P : Params) : Obj := ⟨.type "type", none, .cls { name := (Str.ofString "PageError"), bases := [.type "ValueError"], mro := [.ref 43, .type "ValueError", .type "Exception", .type "BaseException", .type "object"], ns := 42, qualname := (Str.ofString "PageError"), hasDict := true, slotNames := [], subclasses := [.ref 56, .ref 68, .ref 80], abstract := false, collection := none, hasDel := false }, [some (.ref 26), none, some (.str (Str.ofString "PageError") 213), some (.str (Str.ofString "PageError") 221), some (.builtin "ValueError.__new__"), some (.bool true)].toArray⟩
noncomputable def k67 (P : Params) : Obj := ⟨.type "dict", none, .dict [⟨PyData.keyHash P (Str.ofString "__module__"), .str (Str.ofString "__module__") 264, .str (Str.ofString "gluepage.errors") 211⟩, ⟨PyData.keyHash P (Str.ofString "__firstlineno__"), .str (Str.ofString "__firstlineno__") 268, .int (13) 267⟩, ⟨PyData.keyHash P (Str.ofString "__static_attributes__"), .str (Str.ofString "__static_attributes__") 269, .ref 66⟩, ⟨PyData.keyHash P (Str.ofString "__doc__"), .str (Str.ofString "__doc__") 270, .none⟩].toArray 2, [].toArray⟩
noncomputable def k68 (P : Params) : Obj := ⟨.type "type", none, .cls { name := (Str.ofString "Overflow"), bases := [.ref 43], mro := [.ref 68, .ref 43, .type "ValueError", .type "Exception", .type "BaseException", .type "object"], ns := 67, qualname := (Str.ofString "Overflow"), hasDict := true, slotNames := [], subclasses := [], abstract := false, collection := none, hasDel := false }, [some (.ref 59), none, some (.str (Str.ofString "Overflow") 257), some (.str (Str.ofString "Overflow") 265), some (.builtin "ValueError.__new__"), some (.bool true)].toArray⟩
noncomputable def k92 (P : Params) : Obj := ⟨.type "code", none, .fields [.str (Str.ofString "is_whole") 315, .str (Str.ofString "is_whole") 316, .str (Str.ofString "/claim/cut.py") 317, .int (23) 0, .int (3) 0, .int (0) 0, .int (0) 0, .int (3) 0, .ref 87, .bool true, .int (181) 0, .ref 88, .none, .ref 89, .ref 90, .ref 91, .int (321) 0, .int (23) 0, .str (Str.ofString "/claim/cut.py") 322].toArray, [].toArray⟩
noncomputable def k93 (P : Params) : Obj := ⟨.type "function", none, .func (fnOf (Str.ofString "is_whole") (Str.ofString "is_whole") (parOf (stAt 14)) (bodOf (stAt 14)) (scoOf (stAt 14)) (.none) (.none) (.none) (.str (Str.ofString "gluepage.scaled") 289) none (.ref 92) (.none)), [].toArray⟩
noncomputable def k99 (P : Params) : Obj := ⟨.type "code", none, .fields [.str (Str.ofString "check_whole") 324, .str (Str.ofString "check_whole") 325, .str (Str.ofString "/claim/cut.py") 326, .int (25) 0, .int (1) 0, .int (0) 0, .int (0) 0, .int (3) 0, .ref 94, .bool true, .int (181) 0, .ref 95, .none, .ref 96, .ref 97, .ref 98, .int (328) 0, .int (25) 0, .str (Str.ofString "/claim/cut.py") 329].toArray, [].toArray⟩
noncomputable def k100 (P : Params) : Obj := ⟨.type "function", none, .func (fnOf (Str.ofString "check_whole") (Str.ofString "check_whole") (parOf (stAt 15)) (bodOf (stAt 15)) (scoOf (stAt 15)) (.none) (.none) (.none) (.str (Str.ofString "gluepage.scaled") 289) none (.ref 99) (.none)), [].toArray⟩
noncomputable def k106 (P : Params) : Obj := ⟨.type "code", none, .fields [.str (Str.ofString "check_number") 331, .str (Str.ofString "check_number") 332, .str (Str.ofString "/claim/cut.py") 333, .int (29) 0, .int (1) 0, .int (0) 0, .int (0) 0, .int (3) 0, .ref 101, .bool true, .int (181) 0, .ref 102, .none, .ref 103, .ref 104, .ref 105, .int (335) 0, .int (29) 0, .str (Str.ofString "/claim/cut.py") 336].toArray, [].toArray⟩
noncomputable def k107 (P : Params) : Obj := ⟨.type "function", none, .func (fnOf (Str.ofString "check_number") (Str.ofString "check_number") (parOf (stAt 16)) (bodOf (stAt 16)) (scoOf (stAt 16)) (.none) (.none) (.none) (.str (Str.ofString "gluepage.scaled") 289) none (.ref 106) (.none)), [].toArray⟩
noncomputable def k113 (P : Params) : Obj := ⟨.type "code", none, .fields [.str (Str.ofString "check_dimen") 338, .str (Str.ofString "check_dimen") 339, .str (Str.ofString "/claim/cut.py") 340, .int (33) 0, .int (1) 0, .int (0) 0, .int (0) 0, .int (3) 0, .ref 108, .bool true, .int (181) 0, .ref 109, .none, .ref 110, .ref 111, .ref 112, .int (342) 0, .int (33) 0, .str (Str.ofString "/claim/cut.py") 343].toArray, [].toArray⟩
noncomputable def k114 (P : Params) : Obj := ⟨.type "function", none, .func (fnOf (Str.ofString "check_dimen") (Str.ofString "check_dimen") (parOf (stAt 17)) (bodOf (stAt 17)) (scoOf (stAt 17)) (.none) (.none) (.none) (.str (Str.ofString "gluepage.scaled") 289) none (.ref 113) (.none)), [].toArray⟩
noncomputable def k120 (P : Params) : Obj := ⟨.type "code", none, .fields [.str (Str.ofString "rounded") 345, .str (Str.ofString "rounded") 346, .str (Str.ofString "/claim/cut.py") 347, .int (37) 0, .int (2) 0, .int (0) 0, .int (0) 0, .int (3) 0, .ref 115, .bool true, .int (181) 0, .ref 116, .none, .ref 117, .ref 118, .ref 119, .int (350) 0, .int (37) 0, .str (Str.ofString "/claim/cut.py") 351].toArray, [].toArray⟩
noncomputable def k121 (P : Params) : Obj := ⟨.type "function", none, .func (fnOf (Str.ofString "rounded") (Str.ofString "rounded") (parOf (stAt 18)) (bodOf (stAt 18)) (scoOf (stAt 18)) (.none) (.none) (.none) (.str (Str.ofString "gluepage.scaled") 289) none (.ref 120) (.none)), [].toArray⟩
noncomputable def k155 (P : Params) : Obj := ⟨.type "code", none, .fields [.str (Str.ofString "badness") 395, .str (Str.ofString "badness") 396, .str (Str.ofString "/claim/cut.py") 397, .int (69) 0, .int (2) 0, .int (0) 0, .int (0) 0, .int (3) 0, .ref 150, .bool true, .int (181) 0, .ref 151, .none, .ref 152, .ref 153, .ref 154, .int (401) 0, .int (69) 0, .str (Str.ofString "/claim/cut.py") 402].toArray, [].toArray⟩
noncomputable def k156 (P : Params) : Obj := ⟨.type "function", none, .func (fnOf (Str.ofString "badness") (Str.ofString "badness") (parOf (stAt 25)) (bodOf (stAt 25)) (scoOf (stAt 25)) (.none) (.none) (.none) (.str (Str.ofString "gluepage.scaled") 289) none (.ref 155) (.none)), [].toArray⟩
noncomputable def k178 (P : Params) : Obj := ⟨.type "tuple", none, .seq [.int (0) 432, .int (0) 433, .int (0) 434, .int (0) 435, .int (0) 436].toArray 0, [].toArray⟩
noncomputable def k184 (P : Params) : Obj := ⟨.type "code", none, .fields [.str (Str.ofString "__init__") 437, .str (Str.ofString "Glue.__init__") 438, .str (Str.ofString "/claim/cut.py") 439, .int (91) 0, .int (6) 0, .int (0) 0, .int (0) 0, .int (3) 0, .ref 179, .bool true, .int (181) 0, .ref 180, .none, .ref 181, .ref 182, .ref 183, .int (446) 0, .int (91) 0, .str (Str.ofString "/claim/cut.py") 447].toArray, [].toArray⟩
noncomputable def k185 (P : Params) : Obj := ⟨.type "function", none, .func (fnOf (Str.ofString "__init__") (Str.ofString "Glue.__init__") (parOf (mAt 28 0)) (bodOf (mAt 28 0)) (scoOf (mAt 28 0)) (.ref 178) (.none) (.none) (.str (Str.ofString "gluepage.scaled") 289) none (.ref 184) (.none)), [].toArray⟩
noncomputable def k191 (P : Params) : Obj := ⟨.type "code", none, .fields [.str (Str.ofString "parts") 449, .str (Str.ofString "Glue.parts") 450, .str (Str.ofString "/claim/cut.py") 451, .int (100) 0, .int (1) 0, .int (0) 0, .int (0) 0, .int (3) 0, .ref 186, .bool true, .int (181) 0, .ref 187, .none, .ref 188, .ref 189, .ref 190, .int (453) 0, .int (100) 0, .str (Str.ofString "/claim/cut.py") 454].toArray, [].toArray⟩
noncomputable def k192 (P : Params) : Obj := ⟨.type "function", none, .func (fnOf (Str.ofString "parts") (Str.ofString "Glue.parts") (parOf (mAt 28 1)) (bodOf (mAt 28 1)) (scoOf (mAt 28 1)) (.none) (.none) (.none) (.str (Str.ofString "gluepage.scaled") 289) none (.ref 191) (.none)), [].toArray⟩
noncomputable def k237 (P : Params) : Obj := ⟨.type "dict", none, .dict [⟨PyData.keyHash P (Str.ofString "__module__"), .str (Str.ofString "__module__") 427, .str (Str.ofString "gluepage.scaled") 289⟩, ⟨PyData.keyHash P (Str.ofString "__firstlineno__"), .str (Str.ofString "__firstlineno__") 431, .int (89) 430⟩, ⟨PyData.keyHash P (Str.ofString "__init__"), .str (Str.ofString "__init__") 448, .ref 185⟩, ⟨PyData.keyHash P (Str.ofString "parts"), .str (Str.ofString "parts") 455, .ref 192⟩, ⟨PyData.keyHash P (Str.ofString "same"), .str (Str.ofString "same") 463, .ref 199⟩, ⟨PyData.keyHash P (Str.ofString "added"), .str (Str.ofString "added") 471, .ref 206⟩, ⟨PyData.keyHash P (Str.ofString "times"), .str (Str.ofString "times") 481, .ref 213⟩, ⟨PyData.keyHash P (Str.ofString "over"), .str (Str.ofString "over") 491, .ref 220⟩, ⟨PyData.keyHash P (Str.ofString "negated"), .str (Str.ofString "negated") 498, .ref 227⟩, ⟨PyData.keyHash P (Str.ofString "text"), .str (Str.ofString "text") 508, .ref 235⟩, ⟨PyData.keyHash P (Str.ofString "__static_attributes__"), .str (Str.ofString "__static_attributes__") 514, .ref 236⟩, ⟨PyData.keyHash P (Str.ofString "__dict__"), .str (Str.ofString "__dict__") 516, .ref 239⟩, ⟨PyData.keyHash P (Str.ofString "__weakref__"), .str (Str.ofString "__weakref__") 518, .ref 240⟩, ⟨PyData.keyHash P (Str.ofString "__doc__"), .str (Str.ofString "__doc__") 519, .none⟩].toArray 4, [].toArray⟩
noncomputable def k238 (P : Params) : Obj := ⟨.type "type", none, .cls { name := (Str.ofString "Glue"), bases := [.type "object"], mro := [.ref 238, .type "object"], ns := 237, qualname := (Str.ofString "Glue"), hasDict := true, slotNames := [], subclasses := [], abstract := false, collection := none, hasDel := false }, [none, none, some (.str (Str.ofString "Glue") 420), some (.str (Str.ofString "Glue") 428), some (.builtin "object.__new__"), some (.bool true)].toArray⟩
noncomputable def k248 (P : Params) : Obj := ⟨.type "code", none, .fields [.str (Str.ofString "top_order") 522, .str (Str.ofString "top_order") 523, .str (Str.ofString "/claim/cut.py") 524, .int (127) 0, .int (1) 0, .int (0) 0, .int (0) 0, .int (3) 0, .ref 243, .bool true, .int (181) 0, .ref 244, .none, .ref 245, .ref 246, .ref 247, .int (527) 0, .int (127) 0, .str (Str.ofString "/claim/cut.py") 528].toArray, [].toArray⟩
noncomputable def k249 (P : Params) : Obj := ⟨.type "function", none, .func (fnOf (Str.ofString "top_order") (Str.ofString "top_order") (parOf (stAt 29)) (bodOf (stAt 29)) (scoOf (stAt 29)) (.none) (.none) (.none) (.str (Str.ofString "gluepage.scaled") 289) none (.ref 248) (.none)), [].toArray⟩
noncomputable def k262 (P : Params) : Obj := ⟨.type "code", none, .fields [.str (Str.ofString "__init__") 542, .str (Str.ofString "Totals.__init__") 543, .str (Str.ofString "/claim/cut.py") 544, .int (134) 0, .int (1) 0, .int (0) 0, .int (0) 0, .int (3) 0, .ref 257, .bool true, .int (181) 0, .ref 258, .none, .ref 259, .ref 260, .ref 261, .int (546) 0, .int (134) 0, .str (Str.ofString "/claim/cut.py") 547].toArray, [].toArray⟩
noncomputable def k263 (P : Params) : Obj := ⟨.type "function", none, .func (fnOf (Str.ofString "__init__") (Str.ofString "Totals.__init__") (parOf (mAt 30 0)) (bodOf (mAt 30 0)) (scoOf (mAt 30 0)) (.none) (.none) (.none) (.str (Str.ofString "gluepage.scaled") 289) none (.ref 262) (.none)), [].toArray⟩
noncomputable def k269 (P : Params) : Obj := ⟨.type "code", none, .fields [.str (Str.ofString "add") 549, .str (Str.ofString "Totals.add") 550, .str (Str.ofString "/claim/cut.py") 551, .int (139) 0, .int (2) 0, .int (0) 0, .int (0) 0, .int (3) 0, .ref 264, .bool true, .int (181) 0, .ref 265, .none, .ref 266, .ref 267, .ref 268, .int (554) 0, .int (139) 0, .str (Str.ofString "/claim/cut.py") 555].toArray, [].toArray⟩
noncomputable def k270 (P : Params) : Obj := ⟨.type "function", none, .func (fnOf (Str.ofString "add") (Str.ofString "Totals.add") (parOf (mAt 30 1)) (bodOf (mAt 30 1)) (scoOf (mAt 30 1)) (.none) (.none) (.none) (.str (Str.ofString "gluepage.scaled") 289) none (.ref 269) (.none)), [].toArray⟩
noncomputable def k276 (P : Params) : Obj := ⟨.type "code", none, .fields [.str (Str.ofString "widen") 557, .str (Str.ofString "Totals.widen") 558, .str (Str.ofString "/claim/cut.py") 559, .int (144) 0, .int (2) 0, .int (0) 0, .int (0) 0, .int (3) 0, .ref 271, .bool true, .int (181) 0, .ref 272, .none, .ref 273, .ref 274, .ref 275, .int (562) 0, .int (144) 0, .str (Str.ofString "/claim/cut.py") 563].toArray, [].toArray⟩
noncomputable def k277 (P : Params) : Obj := ⟨.type "function", none, .func (fnOf (Str.ofString "widen") (Str.ofString "Totals.widen") (parOf (mAt 30 2)) (bodOf (mAt 30 2)) (scoOf (mAt 30 2)) (.none) (.none) (.none) (.str (Str.ofString "gluepage.scaled") 289) none (.ref 276) (.none)), [].toArray⟩
noncomputable def k283 (P : Params) : Obj := ⟨.type "code", none, .fields [.str (Str.ofString "stretch_top") 565, .str (Str.ofString "Totals.stretch_top") 566, .str (Str.ofString "/claim/cut.py") 567, .int (147) 0, .int (1) 0, .int (0) 0, .int (0) 0, .int (3) 0, .ref 278, .bool true, .int (181) 0, .ref 279, .none, .ref 280, .ref 281, .ref 282, .int (569) 0, .int (147) 0, .str (Str.ofString "/claim/cut.py") 570].toArray, [].toArray⟩
noncomputable def k284 (P : Params) : Obj := ⟨.type "function", none, .func (fnOf (Str.ofString "stretch_top") (Str.ofString "Totals.stretch_top") (parOf (mAt 30 3)) (bodOf (mAt 30 3)) (scoOf (mAt 30 3)) (.none) (.none) (.none) (.str (Str.ofString "gluepage.scaled") 289) none (.ref 283) (.none)), [].toArray⟩
noncomputable def k290 (P : Params) : Obj := ⟨.type "code", none, .fields [.str (Str.ofString "shrink_top") 572, .str (Str.ofString "Totals.shrink_top") 573, .str (Str.ofString "/claim/cut.py") 574, .int (150) 0, .int (1) 0, .int (0) 0, .int (0) 0, .int (3) 0, .ref 285, .bool true, .int (181) 0, .ref 286, .none, .ref 287, .ref 288, .ref 289, .int (576) 0, .int (150) 0, .str (Str.ofString "/claim/cut.py") 577].toArray, [].toArray⟩
noncomputable def k291 (P : Params) : Obj := ⟨.type "function", none, .func (fnOf (Str.ofString "shrink_top") (Str.ofString "Totals.shrink_top") (parOf (mAt 30 4)) (bodOf (mAt 30 4)) (scoOf (mAt 30 4)) (.none) (.none) (.none) (.str (Str.ofString "gluepage.scaled") 289) none (.ref 290) (.none)), [].toArray⟩
noncomputable def k300 (P : Params) : Obj := ⟨.type "dict", none, .dict [⟨PyData.keyHash P (Str.ofString "__module__"), .str (Str.ofString "__module__") 537, .str (Str.ofString "gluepage.scaled") 289⟩, ⟨PyData.keyHash P (Str.ofString "__firstlineno__"), .str (Str.ofString "__firstlineno__") 541, .int (132) 540⟩, ⟨PyData.keyHash P (Str.ofString "__init__"), .str (Str.ofString "__init__") 548, .ref 263⟩, ⟨PyData.keyHash P (Str.ofString "add"), .str (Str.ofString "add") 556, .ref 270⟩, ⟨PyData.keyHash P (Str.ofString "widen"), .str (Str.ofString "widen") 564, .ref 277⟩, ⟨PyData.keyHash P (Str.ofString "stretch_top"), .str (Str.ofString "stretch_top") 571, .ref 284⟩, ⟨PyData.keyHash P (Str.ofString "shrink_top"), .str (Str.ofString "shrink_top") 578, .ref 291⟩, ⟨PyData.keyHash P (Str.ofString "copy"), .str (Str.ofString "copy") 585, .ref 298⟩, ⟨PyData.keyHash P (Str.ofString "__static_attributes__"), .str (Str.ofString "__static_attributes__") 589, .ref 299⟩, ⟨PyData.keyHash P (Str.ofString "__dict__"), .str (Str.ofString "__dict__") 591, .ref 302⟩, ⟨PyData.keyHash P (Str.ofString "__weakref__"), .str (Str.ofString "__weakref__") 593, .ref 303⟩, ⟨PyData.keyHash P (Str.ofString "__doc__"), .str (Str.ofString "__doc__") 594, .none⟩].toArray 4, [].toArray⟩
noncomputable def k301 (P : Params) : Obj := ⟨.type "type", none, .cls { name := (Str.ofString "Totals"), bases := [.type "object"], mro := [.ref 301, .type "object"], ns := 300, qualname := (Str.ofString "Totals"), hasDict := true, slotNames := [], subclasses := [], abstract := false, collection := none, hasDel := false }, [none, none, some (.str (Str.ofString "Totals") 530), some (.str (Str.ofString "Totals") 538), some (.builtin "object.__new__"), some (.bool true)].toArray⟩
noncomputable def k342 (P : Params) : Obj := ⟨.type "code", none, .fields [.str (Str.ofString "__init__") 679, .str (Str.ofString "Box.__init__") 680, .str (Str.ofString "/claim/cut.py") 681, .int (165) 0, .int (6) 0, .int (0) 0, .int (0) 0, .int (3) 0, .ref 337, .bool true, .int (181) 0, .ref 338, .none, .ref 339, .ref 340, .ref 341, .int (688) 0, .int (165) 0, .str (Str.ofString "/claim/cut.py") 689].toArray, [].toArray⟩
noncomputable def k343 (P : Params) : Obj := ⟨.type "function", none, .func (fnOf (Str.ofString "__init__") (Str.ofString "Box.__init__") (parOf (mAt 39 0)) (bodOf (mAt 39 0)) (scoOf (mAt 39 0)) (.none) (.none) (.none) (.str (Str.ofString "gluepage.nodes") 597) none (.ref 342) (.none)), [].toArray⟩
noncomputable def k345 (P : Params) : Obj := ⟨.type "dict", none, .dict [⟨PyData.keyHash P (Str.ofString "__module__"), .str (Str.ofString "__module__") 674, .str (Str.ofString "gluepage.nodes") 597⟩, ⟨PyData.keyHash P (Str.ofString "__firstlineno__"), .str (Str.ofString "__firstlineno__") 678, .int (163) 677⟩, ⟨PyData.keyHash P (Str.ofString "__init__"), .str (Str.ofString "__init__") 690, .ref 343⟩, ⟨PyData.keyHash P (Str.ofString "__static_attributes__"), .str (Str.ofString "__static_attributes__") 700, .ref 344⟩, ⟨PyData.keyHash P (Str.ofString "__dict__"), .str (Str.ofString "__dict__") 702, .ref 347⟩, ⟨PyData.keyHash P (Str.ofString "__weakref__"), .str (Str.ofString "__weakref__") 704, .ref 348⟩, ⟨PyData.keyHash P (Str.ofString "__doc__"), .str (Str.ofString "__doc__") 705, .none⟩].toArray 4, [].toArray⟩
noncomputable def k346 (P : Params) : Obj := ⟨.type "type", none, .cls { name := (Str.ofString "Box"), bases := [.type "object"], mro := [.ref 346, .type "object"], ns := 345, qualname := (Str.ofString "Box"), hasDict := true, slotNames := [], subclasses := [], abstract := false, collection := none, hasDel := false }, [none, none, some (.str (Str.ofString "Box") 667), some (.str (Str.ofString "Box") 675), some (.builtin "object.__new__"), some (.bool true)].toArray⟩
noncomputable def k363 (P : Params) : Obj := ⟨.type "code", none, .fields [.str (Str.ofString "__init__") 721, .str (Str.ofString "Rule.__init__") 722, .str (Str.ofString "/claim/cut.py") 723, .int (180) 0, .int (4) 0, .int (0) 0, .int (0) 0, .int (3) 0, .ref 358, .bool true, .int (181) 0, .ref 359, .none, .ref 360, .ref 361, .ref 362, .int (729) 0, .int (180) 0, .str (Str.ofString "/claim/cut.py") 730].toArray, [].toArray⟩
noncomputable def k364 (P : Params) : Obj := ⟨.type "function", none, .func (fnOf (Str.ofString "__init__") (Str.ofString "Rule.__init__") (parOf (mAt 40 1)) (bodOf (mAt 40 1)) (scoOf (mAt 40 1)) (.none) (.none) (.none) (.str (Str.ofString "gluepage.nodes") 597) none (.ref 363) (.none)), [].toArray⟩
noncomputable def k366 (P : Params) : Obj := ⟨.type "dict", none, .dict [⟨PyData.keyHash P (Str.ofString "__module__"), .str (Str.ofString "__module__") 715, .str (Str.ofString "gluepage.nodes") 597⟩, ⟨PyData.keyHash P (Str.ofString "__firstlineno__"), .str (Str.ofString "__firstlineno__") 719, .int (177) 718⟩, ⟨PyData.keyHash P (Str.ofString "kind"), .str (Str.ofString "kind") 720, .int (4) 603⟩, ⟨PyData.keyHash P (Str.ofString "__init__"), .str (Str.ofString "__init__") 731, .ref 364⟩, ⟨PyData.keyHash P (Str.ofString "__static_attributes__"), .str (Str.ofString "__static_attributes__") 735, .ref 365⟩, ⟨PyData.keyHash P (Str.ofString "__dict__"), .str (Str.ofString "__dict__") 737, .ref 368⟩, ⟨PyData.keyHash P (Str.ofString "__weakref__"), .str (Str.ofString "__weakref__") 739, .ref 369⟩, ⟨PyData.keyHash P (Str.ofString "__doc__"), .str (Str.ofString "__doc__") 740, .none⟩].toArray 4, [].toArray⟩
noncomputable def k367 (P : Params) : Obj := ⟨.type "type", none, .cls { name := (Str.ofString "Rule"), bases := [.type "object"], mro := [.ref 367, .type "object"], ns := 366, qualname := (Str.ofString "Rule"), hasDict := true, slotNames := [], subclasses := [], abstract := false, collection := none, hasDel := false }, [none, none, some (.str (Str.ofString "Rule") 708), some (.str (Str.ofString "Rule") 716), some (.builtin "object.__new__"), some (.bool true)].toArray⟩
noncomputable def k384 (P : Params) : Obj := ⟨.type "code", none, .fields [.str (Str.ofString "__init__") 756, .str (Str.ofString "Kern.__init__") 757, .str (Str.ofString "/claim/cut.py") 758, .int (190) 0, .int (3) 0, .int (0) 0, .int (0) 0, .int (3) 0, .ref 379, .bool true, .int (181) 0, .ref 380, .none, .ref 381, .ref 382, .ref 383, .int (762) 0, .int (190) 0, .str (Str.ofString "/claim/cut.py") 763].toArray, [].toArray⟩
noncomputable def k385 (P : Params) : Obj := ⟨.type "function", none, .func (fnOf (Str.ofString "__init__") (Str.ofString "Kern.__init__") (parOf (mAt 41 1)) (bodOf (mAt 41 1)) (scoOf (mAt 41 1)) (.none) (.none) (.none) (.str (Str.ofString "gluepage.nodes") 597) none (.ref 384) (.none)), [].toArray⟩
noncomputable def k387 (P : Params) : Obj := ⟨.type "dict", none, .dict [⟨PyData.keyHash P (Str.ofString "__module__"), .str (Str.ofString "__module__") 750, .str (Str.ofString "gluepage.nodes") 597⟩, ⟨PyData.keyHash P (Str.ofString "__firstlineno__"), .str (Str.ofString "__firstlineno__") 754, .int (187) 753⟩, ⟨PyData.keyHash P (Str.ofString "kind"), .str (Str.ofString "kind") 755, .int (5) 604⟩, ⟨PyData.keyHash P (Str.ofString "__init__"), .str (Str.ofString "__init__") 764, .ref 385⟩, ⟨PyData.keyHash P (Str.ofString "__static_attributes__"), .str (Str.ofString "__static_attributes__") 767, .ref 386⟩, ⟨PyData.keyHash P (Str.ofString "__dict__"), .str (Str.ofString "__dict__") 769, .ref 389⟩, ⟨PyData.keyHash P (Str.ofString "__weakref__"), .str (Str.ofString "__weakref__") 771, .ref 390⟩, ⟨PyData.keyHash P (Str.ofString "__doc__"), .str (Str.ofString "__doc__") 772, .none⟩].toArray 4, [].toArray⟩
noncomputable def k388 (P : Params) : Obj := ⟨.type "type", none, .cls { name := (Str.ofString "Kern"), bases := [.type "object"], mro := [.ref 388, .type "object"], ns := 387, qualname := (Str.ofString "Kern"), hasDict := true, slotNames := [], subclasses := [], abstract := false, collection := none, hasDel := false }, [none, none, some (.str (Str.ofString "Kern") 743), some (.str (Str.ofString "Kern") 751), some (.builtin "object.__new__"), some (.bool true)].toArray⟩
noncomputable def k400 (P : Params) : Obj := ⟨.type "tuple", none, .seq [.none].toArray 0, [].toArray⟩
noncomputable def k406 (P : Params) : Obj := ⟨.type "code", none, .fields [.str (Str.ofString "__init__") 788, .str (Str.ofString "Skip.__init__") 789, .str (Str.ofString "/claim/cut.py") 790, .int (198) 0, .int (4) 0, .int (0) 0, .int (0) 0, .int (3) 0, .ref 401, .bool true, .int (181) 0, .ref 402, .none, .ref 403, .ref 404, .ref 405, .int (795) 0, .int (198) 0, .str (Str.ofString "/claim/cut.py") 796].toArray, [].toArray⟩
noncomputable def k407 (P : Params) : Obj := ⟨.type "function", none, .func (fnOf (Str.ofString "__init__") (Str.ofString "Skip.__init__") (parOf (mAt 42 1)) (bodOf (mAt 42 1)) (scoOf (mAt 42 1)) (.ref 400) (.none) (.none) (.str (Str.ofString "gluepage.nodes") 597) none (.ref 406) (.none)), [].toArray⟩
noncomputable def k409 (P : Params) : Obj := ⟨.type "dict", none, .dict [⟨PyData.keyHash P (Str.ofString "__module__"), .str (Str.ofString "__module__") 782, .str (Str.ofString "gluepage.nodes") 597⟩, ⟨PyData.keyHash P (Str.ofString "__firstlineno__"), .str (Str.ofString "__firstlineno__") 786, .int (195) 785⟩, ⟨PyData.keyHash P (Str.ofString "kind"), .str (Str.ofString "kind") 787, .int (6) 605⟩, ⟨PyData.keyHash P (Str.ofString "__init__"), .str (Str.ofString "__init__") 797, .ref 407⟩, ⟨PyData.keyHash P (Str.ofString "__static_attributes__"), .str (Str.ofString "__static_attributes__") 801, .ref 408⟩, ⟨PyData.keyHash P (Str.ofString "__dict__"), .str (Str.ofString "__dict__") 803, .ref 411⟩, ⟨PyData.keyHash P (Str.ofString "__weakref__"), .str (Str.ofString "__weakref__") 805, .ref 412⟩, ⟨PyData.keyHash P (Str.ofString "__doc__"), .str (Str.ofString "__doc__") 806, .none⟩].toArray 4, [].toArray⟩
noncomputable def k410 (P : Params) : Obj := ⟨.type "type", none, .cls { name := (Str.ofString "Skip"), bases := [.type "object"], mro := [.ref 410, .type "object"], ns := 409, qualname := (Str.ofString "Skip"), hasDict := true, slotNames := [], subclasses := [], abstract := false, collection := none, hasDel := false }, [none, none, some (.str (Str.ofString "Skip") 775), some (.str (Str.ofString "Skip") 783), some (.builtin "object.__new__"), some (.bool true)].toArray⟩
noncomputable def k427 (P : Params) : Obj := ⟨.type "code", none, .fields [.str (Str.ofString "__init__") 822, .str (Str.ofString "Penalty.__init__") 823, .str (Str.ofString "/claim/cut.py") 824, .int (211) 0, .int (2) 0, .int (0) 0, .int (0) 0, .int (3) 0, .ref 422, .bool true, .int (181) 0, .ref 423, .none, .ref 424, .ref 425, .ref 426, .int (827) 0, .int (211) 0, .str (Str.ofString "/claim/cut.py") 828].toArray, [].toArray⟩
noncomputable def k428 (P : Params) : Obj := ⟨.type "function", none, .func (fnOf (Str.ofString "__init__") (Str.ofString "Penalty.__init__") (parOf (mAt 43 1)) (bodOf (mAt 43 1)) (scoOf (mAt 43 1)) (.none) (.none) (.none) (.str (Str.ofString "gluepage.nodes") 597) none (.ref 427) (.none)), [].toArray⟩
noncomputable def k430 (P : Params) : Obj := ⟨.type "dict", none, .dict [⟨PyData.keyHash P (Str.ofString "__module__"), .str (Str.ofString "__module__") 816, .str (Str.ofString "gluepage.nodes") 597⟩, ⟨PyData.keyHash P (Str.ofString "__firstlineno__"), .str (Str.ofString "__firstlineno__") 820, .int (208) 819⟩, ⟨PyData.keyHash P (Str.ofString "kind"), .str (Str.ofString "kind") 821, .int (7) 606⟩, ⟨PyData.keyHash P (Str.ofString "__init__"), .str (Str.ofString "__init__") 829, .ref 428⟩, ⟨PyData.keyHash P (Str.ofString "__static_attributes__"), .str (Str.ofString "__static_attributes__") 831, .ref 429⟩, ⟨PyData.keyHash P (Str.ofString "__dict__"), .str (Str.ofString "__dict__") 833, .ref 432⟩, ⟨PyData.keyHash P (Str.ofString "__weakref__"), .str (Str.ofString "__weakref__") 835, .ref 433⟩, ⟨PyData.keyHash P (Str.ofString "__doc__"), .str (Str.ofString "__doc__") 836, .none⟩].toArray 4, [].toArray⟩
noncomputable def k431 (P : Params) : Obj := ⟨.type "type", none, .cls { name := (Str.ofString "Penalty"), bases := [.type "object"], mro := [.ref 431, .type "object"], ns := 430, qualname := (Str.ofString "Penalty"), hasDict := true, slotNames := [], subclasses := [], abstract := false, collection := none, hasDel := false }, [none, none, some (.str (Str.ofString "Penalty") 809), some (.str (Str.ofString "Penalty") 817), some (.builtin "object.__new__"), some (.bool true)].toArray⟩
noncomputable def k441 (P : Params) : Obj := ⟨.type "code", none, .fields [.str (Str.ofString "check_depth") 839, .str (Str.ofString "check_depth") 840, .str (Str.ofString "/claim/cut.py") 841, .int (213) 0, .int (1) 0, .int (0) 0, .int (0) 0, .int (3) 0, .ref 436, .bool true, .int (181) 0, .ref 437, .none, .ref 438, .ref 439, .ref 440, .int (843) 0, .int (213) 0, .str (Str.ofString "/claim/cut.py") 844].toArray, [].toArray⟩
noncomputable def k442 (P : Params) : Obj := ⟨.type "function", none, .func (fnOf (Str.ofString "check_depth") (Str.ofString "check_depth") (parOf (stAt 44)) (bodOf (stAt 44)) (scoOf (stAt 44)) (.none) (.none) (.none) (.str (Str.ofString "gluepage.nodes") 597) none (.ref 441) (.none)), [].toArray⟩
noncomputable def k455 (P : Params) : Obj := ⟨.type "tuple", none, .seq [.int (0) 863].toArray 0, [].toArray⟩
noncomputable def k459 (P : Params) : Obj := ⟨.type "code", none, .fields [.str (Str.ofString "described") 864, .str (Str.ofString "described") 865, .str (Str.ofString "/claim/cut.py") 866, .int (237) 0, .int (2) 0, .int (0) 0, .int (0) 0, .int (3) 0, .ref 456, .bool true, .int (181) 0, .ref 457, .none, .none, .none, .ref 458, .int (867) 0, .int (237) 0, .str (Str.ofString "/claim/cut.py") 868].toArray, [].toArray⟩
noncomputable def k460 (P : Params) : Obj := ⟨.type "function", none, .func (fnOf (Str.ofString "described") (Str.ofString "described") (parOf (stAt 47)) (bodOf (stAt 47)) (scoOf (stAt 47)) (.ref 455) (.none) (.none) (.str (Str.ofString "gluepage.nodes") 597) none (.ref 459) (.none)), [].toArray⟩
noncomputable def k461 (P : Params) : Obj := ⟨.type "tuple", none, .seq [.int (0) 870].toArray 0, [].toArray⟩
noncomputable def k465 (P : Params) : Obj := ⟨.type "code", none, .fields [.str (Str.ofString "described_list") 871, .str (Str.ofString "described_list") 872, .str (Str.ofString "/claim/cut.py") 873, .int (260) 0, .int (2) 0, .int (0) 0, .int (0) 0, .int (3) 0, .ref 462, .bool true, .int (181) 0, .ref 463, .none, .none, .none, .ref 464, .int (874) 0, .int (260) 0, .str (Str.ofString "/claim/cut.py") 875].toArray, [].toArray⟩
noncomputable def k466 (P : Params) : Obj := ⟨.type "function", none, .func (fnOf (Str.ofString "described_list") (Str.ofString "described_list") (parOf (stAt 48)) (bodOf (stAt 48)) (scoOf (stAt 48)) (.ref 461) (.none) (.none) (.str (Str.ofString "gluepage.nodes") 597) none (.ref 465) (.none)), [].toArray⟩
noncomputable def k470 (P : Params) : Obj := ⟨.type "code", none, .fields [.str (Str.ofString "width_of") 877, .str (Str.ofString "width_of") 878, .str (Str.ofString "/claim/cut.py") 879, .int (262) 0, .int (1) 0, .int (0) 0, .int (0) 0, .int (3) 0, .ref 467, .bool true, .int (181) 0, .ref 468, .none, .none, .none, .ref 469, .int (880) 0, .int (262) 0, .str (Str.ofString "/claim/cut.py") 881].toArray, [].toArray⟩
noncomputable def k471 (P : Params) : Obj := ⟨.type "function", none, .func (fnOf (Str.ofString "width_of") (Str.ofString "width_of") (parOf (stAt 49)) (bodOf (stAt 49)) (scoOf (stAt 49)) (.none) (.none) (.none) (.str (Str.ofString "gluepage.nodes") 597) none (.ref 470) (.none)), [].toArray⟩
noncomputable def k475 (P : Params) : Obj := ⟨.type "code", none, .fields [.str (Str.ofString "height_of") 883, .str (Str.ofString "height_of") 884, .str (Str.ofString "/claim/cut.py") 885, .int (275) 0, .int (1) 0, .int (0) 0, .int (0) 0, .int (3) 0, .ref 472, .bool true, .int (181) 0, .ref 473, .none, .none, .none, .ref 474, .int (886) 0, .int (275) 0, .str (Str.ofString "/claim/cut.py") 887].toArray, [].toArray⟩
noncomputable def k476 (P : Params) : Obj := ⟨.type "function", none, .func (fnOf (Str.ofString "height_of") (Str.ofString "height_of") (parOf (stAt 50)) (bodOf (stAt 50)) (scoOf (stAt 50)) (.none) (.none) (.none) (.str (Str.ofString "gluepage.nodes") 597) none (.ref 475) (.none)), [].toArray⟩
noncomputable def k480 (P : Params) : Obj := ⟨.type "code", none, .fields [.str (Str.ofString "depth_of") 889, .str (Str.ofString "depth_of") 890, .str (Str.ofString "/claim/cut.py") 891, .int (288) 0, .int (1) 0, .int (0) 0, .int (0) 0, .int (3) 0, .ref 477, .bool true, .int (181) 0, .ref 478, .none, .none, .none, .ref 479, .int (892) 0, .int (288) 0, .str (Str.ofString "/claim/cut.py") 893].toArray, [].toArray⟩
noncomputable def k481 (P : Params) : Obj := ⟨.type "function", none, .func (fnOf (Str.ofString "depth_of") (Str.ofString "depth_of") (parOf (stAt 51)) (bodOf (stAt 51)) (scoOf (stAt 51)) (.none) (.none) (.none) (.str (Str.ofString "gluepage.nodes") 597) none (.ref 480) (.none)), [].toArray⟩
noncomputable def k501 (P : Params) : Obj := ⟨.type "code", none, .fields [.str (Str.ofString "append_box") 911, .str (Str.ofString "append_box") 912, .str (Str.ofString "/claim/cut.py") 913, .int (310) 0, .int (4) 0, .int (0) 0, .int (0) 0, .int (3) 0, .ref 496, .bool true, .int (181) 0, .ref 497, .none, .ref 498, .ref 499, .ref 500, .int (923) 0, .int (310) 0, .str (Str.ofString "/claim/cut.py") 924].toArray, [].toArray⟩
noncomputable def k502 (P : Params) : Obj := ⟨.type "function", none, .func (fnOf (Str.ofString "append_box") (Str.ofString "append_box") (parOf (stAt 55)) (bodOf (stAt 55)) (scoOf (stAt 55)) (.none) (.none) (.none) (.str (Str.ofString "gluepage.paragraph") 909) none (.ref 501) (.none)), [].toArray⟩
noncomputable def k516 (P : Params) : Obj := ⟨.type "code", none, .fields [.str (Str.ofString "across") 940, .str (Str.ofString "across") 941, .str (Str.ofString "/claim/cut.py") 942, .int (324) 0, .int (1) 0, .int (0) 0, .int (0) 0, .int (3) 0, .ref 511, .bool true, .int (181) 0, .ref 512, .none, .ref 513, .ref 514, .ref 515, .int (944) 0, .int (324) 0, .str (Str.ofString "/claim/cut.py") 945].toArray, [].toArray⟩
noncomputable def k517 (P : Params) : Obj := ⟨.type "function", none, .func (fnOf (Str.ofString "across") (Str.ofString "across") (parOf (stAt 59)) (bodOf (stAt 59)) (scoOf (stAt 59)) (.none) (.none) (.none) (.str (Str.ofString "gluepage.packing") 926) none (.ref 516) (.none)), [].toArray⟩
noncomputable def k523 (P : Params) : Obj := ⟨.type "code", none, .fields [.str (Str.ofString "check_column") 947, .str (Str.ofString "check_column") 948, .str (Str.ofString "/claim/cut.py") 949, .int (330) 0, .int (1) 0, .int (0) 0, .int (0) 0, .int (3) 0, .ref 518, .bool true, .int (181) 0, .ref 519, .none, .ref 520, .ref 521, .ref 522, .int (952) 0, .int (330) 0, .str (Str.ofString "/claim/cut.py") 953].toArray, [].toArray⟩
noncomputable def k524 (P : Params) : Obj := ⟨.type "function", none, .func (fnOf (Str.ofString "check_column") (Str.ofString "check_column") (parOf (stAt 60)) (bodOf (stAt 60)) (scoOf (stAt 60)) (.none) (.none) (.none) (.str (Str.ofString "gluepage.packing") 926) none (.ref 523) (.none)), [].toArray⟩
noncomputable def k530 (P : Params) : Obj := ⟨.type "code", none, .fields [.str (Str.ofString "natural_column") 955, .str (Str.ofString "natural_column") 956, .str (Str.ofString "/claim/cut.py") 957, .int (334) 0, .int (1) 0, .int (0) 0, .int (0) 0, .int (3) 0, .ref 525, .bool true, .int (181) 0, .ref 526, .none, .ref 527, .ref 528, .ref 529, .int (963) 0, .int (334) 0, .str (Str.ofString "/claim/cut.py") 964].toArray, [].toArray⟩
noncomputable def k531 (P : Params) : Obj := ⟨.type "function", none, .func (fnOf (Str.ofString "natural_column") (Str.ofString "natural_column") (parOf (stAt 61)) (bodOf (stAt 61)) (scoOf (stAt 61)) (.none) (.none) (.none) (.str (Str.ofString "gluepage.packing") 926) none (.ref 530) (.none)), [].toArray⟩
noncomputable def k537 (P : Params) : Obj := ⟨.type "code", none, .fields [.str (Str.ofString "quotient") 966, .str (Str.ofString "quotient") 967, .str (Str.ofString "/claim/cut.py") 968, .int (351) 0, .int (2) 0, .int (0) 0, .int (0) 0, .int (3) 0, .ref 532, .bool true, .int (181) 0, .ref 533, .none, .ref 534, .ref 535, .ref 536, .int (971) 0, .int (351) 0, .str (Str.ofString "/claim/cut.py") 972].toArray, [].toArray⟩
noncomputable def k538 (P : Params) : Obj := ⟨.type "function", none, .func (fnOf (Str.ofString "quotient") (Str.ofString "quotient") (parOf (stAt 62)) (bodOf (stAt 62)) (scoOf (stAt 62)) (.none) (.none) (.none) (.str (Str.ofString "gluepage.packing") 926) none (.ref 537) (.none)), [].toArray⟩
noncomputable def k544 (P : Params) : Obj := ⟨.type "code", none, .fields [.str (Str.ofString "set_glue") 974, .str (Str.ofString "set_glue") 975, .str (Str.ofString "/claim/cut.py") 976, .int (353) 0, .int (2) 0, .int (0) 0, .int (0) 0, .int (3) 0, .ref 539, .bool true, .int (181) 0, .ref 540, .none, .ref 541, .ref 542, .ref 543, .int (982) 0, .int (353) 0, .str (Str.ofString "/claim/cut.py") 983].toArray, [].toArray⟩
noncomputable def k545 (P : Params) : Obj := ⟨.type "function", none, .func (fnOf (Str.ofString "set_glue") (Str.ofString "set_glue") (parOf (stAt 63)) (bodOf (stAt 63)) (scoOf (stAt 63)) (.none) (.none) (.none) (.str (Str.ofString "gluepage.packing") 926) none (.ref 544) (.none)), [].toArray⟩
noncomputable def k551 (P : Params) : Obj := ⟨.type "code", none, .fields [.str (Str.ofString "flex") 985, .str (Str.ofString "flex") 986, .str (Str.ofString "/claim/cut.py") 987, .int (368) 0, .int (2) 0, .int (0) 0, .int (0) 0, .int (3) 0, .ref 546, .bool true, .int (181) 0, .ref 547, .none, .ref 548, .ref 549, .ref 550, .int (990) 0, .int (368) 0, .str (Str.ofString "/claim/cut.py") 991].toArray, [].toArray⟩
noncomputable def k552 (P : Params) : Obj := ⟨.type "function", none, .func (fnOf (Str.ofString "flex") (Str.ofString "flex") (parOf (stAt 64)) (bodOf (stAt 64)) (scoOf (stAt 64)) (.none) (.none) (.none) (.str (Str.ofString "gluepage.packing") 926) none (.ref 551) (.none)), [].toArray⟩
noncomputable def k558 (P : Params) : Obj := ⟨.type "code", none, .fields [.str (Str.ofString "set_part") 993, .str (Str.ofString "set_part") 994, .str (Str.ofString "/claim/cut.py") 995, .int (374) 0, .int (2) 0, .int (0) 0, .int (0) 0, .int (3) 0, .ref 553, .bool true, .int (181) 0, .ref 554, .none, .ref 555, .ref 556, .ref 557, .int (998) 0, .int (374) 0, .str (Str.ofString "/claim/cut.py") 999].toArray, [].toArray⟩
noncomputable def k559 (P : Params) : Obj := ⟨.type "function", none, .func (fnOf (Str.ofString "set_part") (Str.ofString "set_part") (parOf (stAt 65)) (bodOf (stAt 65)) (scoOf (stAt 65)) (.none) (.none) (.none) (.str (Str.ofString "gluepage.packing") 926) none (.ref 558) (.none)), [].toArray⟩
noncomputable def k565 (P : Params) : Obj := ⟨.type "code", none, .fields [.str (Str.ofString "part_size") 1001, .str (Str.ofString "part_size") 1002, .str (Str.ofString "/claim/cut.py") 1003, .int (376) 0, .int (2) 0, .int (0) 0, .int (0) 0, .int (3) 0, .ref 560, .bool true, .int (181) 0, .ref 561, .none, .ref 562, .ref 563, .ref 564, .int (1006) 0, .int (376) 0, .str (Str.ofString "/claim/cut.py") 1007].toArray, [].toArray⟩
noncomputable def k566 (P : Params) : Obj := ⟨.type "function", none, .func (fnOf (Str.ofString "part_size") (Str.ofString "part_size") (parOf (stAt 66)) (bodOf (stAt 66)) (scoOf (stAt 66)) (.none) (.none) (.none) (.str (Str.ofString "gluepage.packing") 926) none (.ref 565) (.none)), [].toArray⟩
noncomputable def k572 (P : Params) : Obj := ⟨.type "code", none, .fields [.str (Str.ofString "places") 1009, .str (Str.ofString "places") 1010, .str (Str.ofString "/claim/cut.py") 1011, .int (380) 0, .int (1) 0, .int (0) 0, .int (0) 0, .int (3) 0, .ref 567, .bool true, .int (181) 0, .ref 568, .none, .ref 569, .ref 570, .ref 571, .int (1017) 0, .int (380) 0, .str (Str.ofString "/claim/cut.py") 1018].toArray, [].toArray⟩
noncomputable def k573 (P : Params) : Obj := ⟨.type "function", none, .func (fnOf (Str.ofString "places") (Str.ofString "places") (parOf (stAt 67)) (bodOf (stAt 67)) (scoOf (stAt 67)) (.none) (.none) (.none) (.str (Str.ofString "gluepage.packing") 926) none (.ref 572) (.none)), [].toArray⟩
noncomputable def k579 (P : Params) : Obj := ⟨.type "code", none, .fields [.str (Str.ofString "goal_size") 1020, .str (Str.ofString "goal_size") 1021, .str (Str.ofString "/claim/cut.py") 1022, .int (393) 0, .int (3) 0, .int (0) 0, .int (0) 0, .int (3) 0, .ref 574, .bool true, .int (181) 0, .ref 575, .none, .ref 576, .ref 577, .ref 578, .int (1026) 0, .int (393) 0, .str (Str.ofString "/claim/cut.py") 1027].toArray, [].toArray⟩
noncomputable def k580 (P : Params) : Obj := ⟨.type "function", none, .func (fnOf (Str.ofString "goal_size") (Str.ofString "goal_size") (parOf (stAt 68)) (bodOf (stAt 68)) (scoOf (stAt 68)) (.none) (.none) (.none) (.str (Str.ofString "gluepage.packing") 926) none (.ref 579) (.none)), [].toArray⟩
noncomputable def k586 (P : Params) : Obj := ⟨.type "code", none, .fields [.str (Str.ofString "set_box") 1029, .str (Str.ofString "set_box") 1030, .str (Str.ofString "/claim/cut.py") 1031, .int (398) 0, .int (3) 0, .int (0) 0, .int (0) 0, .int (3) 0, .ref 581, .bool true, .int (181) 0, .ref 582, .none, .ref 583, .ref 584, .ref 585, .int (1036) 0, .int (398) 0, .str (Str.ofString "/claim/cut.py") 1037].toArray, [].toArray⟩
noncomputable def k587 (P : Params) : Obj := ⟨.type "function", none, .func (fnOf (Str.ofString "set_box") (Str.ofString "set_box") (parOf (stAt 69)) (bodOf (stAt 69)) (scoOf (stAt 69)) (.none) (.none) (.none) (.str (Str.ofString "gluepage.packing") 926) none (.ref 586) (.none)), [].toArray⟩
noncomputable def k588 (P : Params) : Obj := ⟨.type "tuple", none, .seq [.int (1) 929, .int (0) 1039, .int (1073741823) 297].toArray 0, [].toArray⟩
noncomputable def k594 (P : Params) : Obj := ⟨.type "code", none, .fields [.str (Str.ofString "vpack") 1040, .str (Str.ofString "vpack") 1041, .str (Str.ofString "/claim/cut.py") 1042, .int (401) 0, .int (4) 0, .int (0) 0, .int (0) 0, .int (3) 0, .ref 589, .bool true, .int (181) 0, .ref 590, .none, .ref 591, .ref 592, .ref 593, .int (1052) 0, .int (401) 0, .str (Str.ofString "/claim/cut.py") 1053].toArray, [].toArray⟩
noncomputable def k595 (P : Params) : Obj := ⟨.type "function", none, .func (fnOf (Str.ofString "vpack") (Str.ofString "vpack") (parOf (stAt 70)) (bodOf (stAt 70)) (scoOf (stAt 70)) (.ref 588) (.none) (.none) (.str (Str.ofString "gluepage.packing") 926) none (.ref 594) (.none)), [].toArray⟩
noncomputable def k601 (P : Params) : Obj := ⟨.type "code", none, .fields [.str (Str.ofString "_law_pool") 1057, .str (Str.ofString "_law_pool") 1058, .str (Str.ofString "/claim/cut.py") 1059, .int (411) 0, .int (1) 0, .int (0) 0, .int (0) 0, .int (3) 0, .ref 596, .bool true, .int (181) 0, .ref 597, .none, .ref 598, .ref 599, .ref 600, .int (1064) 0, .int (411) 0, .str (Str.ofString "/claim/cut.py") 1065].toArray, [].toArray⟩
noncomputable def k602 (P : Params) : Obj := ⟨.type "function", none, .func (fnOf (Str.ofString "_law_pool") (Str.ofString "_law_pool") (parOf (stAt 72)) (bodOf (stAt 72)) (scoOf (stAt 72)) (.none) (.none) (.none) (.str (Str.ofString "law_sq0053_01") 1055) none (.ref 601) (.none)), [].toArray⟩
noncomputable def k608 (P : Params) : Obj := ⟨.type "code", none, .fields [.str (Str.ofString "_law_take") 1067, .str (Str.ofString "_law_take") 1068, .str (Str.ofString "/claim/cut.py") 1069, .int (419) 0, .int (2) 0, .int (0) 0, .int (0) 0, .int (3) 0, .ref 603, .bool true, .int (181) 0, .ref 604, .none, .ref 605, .ref 606, .ref 607, .int (1073) 0, .int (419) 0, .str (Str.ofString "/claim/cut.py") 1074].toArray, [].toArray⟩
noncomputable def k609 (P : Params) : Obj := ⟨.type "function", none, .func (fnOf (Str.ofString "_law_take") (Str.ofString "_law_take") (parOf (stAt 73)) (bodOf (stAt 73)) (scoOf (stAt 73)) (.none) (.none) (.none) (.str (Str.ofString "law_sq0053_01") 1055) none (.ref 608) (.none)), [].toArray⟩
noncomputable def k615 (P : Params) : Obj := ⟨.type "code", none, .fields [.str (Str.ofString "_law_deeds") 1076, .str (Str.ofString "_law_deeds") 1077, .str (Str.ofString "/claim/cut.py") 1078, .int (426) 0, .int (1) 0, .int (0) 0, .int (0) 0, .int (3) 0, .ref 610, .bool true, .int (181) 0, .ref 611, .none, .ref 612, .ref 613, .ref 614, .int (1083) 0, .int (426) 0, .str (Str.ofString "/claim/cut.py") 1084].toArray, [].toArray⟩
noncomputable def k616 (P : Params) : Obj := ⟨.type "function", none, .func (fnOf (Str.ofString "_law_deeds") (Str.ofString "_law_deeds") (parOf (stAt 74)) (bodOf (stAt 74)) (scoOf (stAt 74)) (.none) (.none) (.none) (.str (Str.ofString "law_sq0053_01") 1055) none (.ref 615) (.none)), [].toArray⟩
noncomputable def k622 (P : Params) : Obj := ⟨.type "code", none, .fields [.str (Str.ofString "_law_column") 1086, .str (Str.ofString "_law_column") 1087, .str (Str.ofString "/claim/cut.py") 1088, .int (432) 0, .int (3) 0, .int (0) 0, .int (0) 0, .int (3) 0, .ref 617, .bool true, .int (181) 0, .ref 618, .none, .ref 619, .ref 620, .ref 621, .int (1098) 0, .int (432) 0, .str (Str.ofString "/claim/cut.py") 1099].toArray, [].toArray⟩
noncomputable def k623 (P : Params) : Obj := ⟨.type "function", none, .func (fnOf (Str.ofString "_law_column") (Str.ofString "_law_column") (parOf (stAt 75)) (bodOf (stAt 75)) (scoOf (stAt 75)) (.none) (.none) (.none) (.str (Str.ofString "law_sq0053_01") 1055) none (.ref 622) (.none)), [].toArray⟩
noncomputable def k629 (P : Params) : Obj := ⟨.type "code", none, .fields [.str (Str.ofString "_law_rows") 1101, .str (Str.ofString "_law_rows") 1102, .str (Str.ofString "/claim/cut.py") 1103, .int (449) 0, .int (3) 0, .int (0) 0, .int (0) 0, .int (3) 0, .ref 624, .bool true, .int (181) 0, .ref 625, .none, .ref 626, .ref 627, .ref 628, .int (1115) 0, .int (449) 0, .str (Str.ofString "/claim/cut.py") 1116].toArray, [].toArray⟩
noncomputable def k630 (P : Params) : Obj := ⟨.type "function", none, .func (fnOf (Str.ofString "_law_rows") (Str.ofString "_law_rows") (parOf (stAt 76)) (bodOf (stAt 76)) (scoOf (stAt 76)) (.none) (.none) (.none) (.str (Str.ofString "law_sq0053_01") 1055) none (.ref 629) (.none)), [].toArray⟩
noncomputable def k634 (P : Params) : Obj := ⟨.type "code", none, .fields [.str (Str.ofString "_law_begins") 1118, .str (Str.ofString "_law_begins") 1119, .str (Str.ofString "/claim/cut.py") 1120, .int (471) 0, .int (2) 0, .int (0) 0, .int (0) 0, .int (3) 0, .ref 631, .bool true, .int (181) 0, .ref 632, .none, .none, .none, .ref 633, .int (1121) 0, .int (471) 0, .str (Str.ofString "/claim/cut.py") 1122].toArray, [].toArray⟩
noncomputable def k635 (P : Params) : Obj := ⟨.type "function", none, .func (fnOf (Str.ofString "_law_begins") (Str.ofString "_law_begins") (parOf (stAt 77)) (bodOf (stAt 77)) (scoOf (stAt 77)) (.none) (.none) (.none) (.str (Str.ofString "law_sq0053_01") 1055) none (.ref 634) (.none)), [].toArray⟩
noncomputable def k641 (P : Params) : Obj := ⟨.type "code", none, .fields [.str (Str.ofString "_law_refused") 1124, .str (Str.ofString "_law_refused") 1125, .str (Str.ofString "/claim/cut.py") 1126, .int (481) 0, .int (2) 0, .int (0) 0, .int (0) 0, .int (3) 0, .ref 636, .bool true, .int (181) 0, .ref 637, .none, .ref 638, .ref 639, .ref 640, .int (1130) 0, .int (481) 0, .str (Str.ofString "/claim/cut.py") 1131].toArray, [].toArray⟩
noncomputable def k642 (P : Params) : Obj := ⟨.type "function", none, .func (fnOf (Str.ofString "_law_refused") (Str.ofString "_law_refused") (parOf (stAt 78)) (bodOf (stAt 78)) (scoOf (stAt 78)) (.none) (.none) (.none) (.str (Str.ofString "law_sq0053_01") 1055) none (.ref 641) (.none)), [].toArray⟩
noncomputable def k646 (P : Params) : Obj := ⟨.type "code", none, .fields [.str (Str.ofString "law") 1133, .str (Str.ofString "law") 1134, .str (Str.ofString "/claim/cut.py") 1135, .int (488) 0, .int (1) 0, .int (0) 0, .int (0) 0, .int (3) 0, .ref 643, .bool true, .int (181) 0, .ref 644, .none, .none, .none, .ref 645, .int (1136) 0, .int (488) 0, .str (Str.ofString "/claim/cut.py") 1137].toArray, [].toArray⟩
noncomputable def k647 (P : Params) : Obj := ⟨.type "function", none, .func (fnOf (Str.ofString "law") (Str.ofString "law") (parOf (stAt 79)) (bodOf (stAt 79)) (scoOf (stAt 79)) (.none) (.none) (.none) (.str (Str.ofString "law_sq0053_01") 1055) none (.ref 646) (.none)), [].toArray⟩
noncomputable def kk (P : Params) : Frag := [(2, k2 P), (3, k3 P), (33, k33 P), (39, k39 P), (40, k40 P), (42, k42 P), (43, k43 P), (67, k67 P), (68, k68 P), (92, k92 P), (93, k93 P), (99, k99 P), (100, k100 P), (106, k106 P), (107, k107 P), (113, k113 P), (114, k114 P), (120, k120 P), (121, k121 P), (155, k155 P), (156, k156 P), (178, k178 P), (184, k184 P), (185, k185 P), (191, k191 P), (192, k192 P), (237, k237 P), (238, k238 P), (248, k248 P), (249, k249 P), (262, k262 P), (263, k263 P), (269, k269 P), (270, k270 P), (276, k276 P), (277, k277 P), (283, k283 P), (284, k284 P), (290, k290 P), (291, k291 P), (300, k300 P), (301, k301 P), (342, k342 P), (343, k343 P), (345, k345 P), (346, k346 P), (363, k363 P), (364, k364 P), (366, k366 P), (367, k367 P), (384, k384 P), (385, k385 P), (387, k387 P), (388, k388 P), (400, k400 P), (406, k406 P), (407, k407 P), (409, k409 P), (410, k410 P), (427, k427 P), (428, k428 P), (430, k430 P), (431, k431 P), (441, k441 P), (442, k442 P), (455, k455 P), (459, k459 P), (460, k460 P), (461, k461 P), (465, k465 P), (466, k466 P), (470, k470 P), (471, k471 P), (475, k475 P), (476, k476 P), (480, k480 P), (481, k481 P), (501, k501 P), (502, k502 P), (516, k516 P), (517, k517 P), (523, k523 P), (524, k524 P), (530, k530 P), (531, k531 P), (537, k537 P), (538, k538 P), (544, k544 P), (545, k545 P), (551, k551 P), (552, k552 P), (558, k558 P), (559, k559 P), (565, k565 P), (566, k566 P), (572, k572 P), (573, k573 P), (579, k579 P), (580, k580 P), (586, k586 P), (587, k587 P), (588, k588 P), (594, k594 P), (595, k595 P), (601, k601 P), (602, k602 P), (608, k608 P), (609, k609 P), (615, k615 P), (616, k616 P), (622, k622 P), (623, k623 P), (629, k629 P), (630, k630 P), (634, k634 P), (635, k635 P), (641, k641 P), (642, k642 P), (646, k646 P), (647, k647 P)]

theorem t1 (P : Params) : nsIn (kk P) mainGlobals (Str.ofString "check_dimen") = some (some (.ref 114)) := by kernel_rfl
theorem t2 (P : Params) : makesIn (kk P) 346 = true := by kernel_rfl
theorem t3 (P : Params) : findIn (kk P) (.ref 346) (Str.ofString "__init__") = some (some (.ref 343)) := by kernel_rfl
theorem t4 (P : Params) : plainGet (kk P) 346 (Str.ofString "kind") = true := by kernel_rfl
theorem t5 (P : Params) : codeIn (kk P) (.ref 113) (Str.ofString "check_dimen") = true := by kernel_rfl
theorem t6 (P : Params) : (kk P).lookup 343 = some (k343 P) := by kernel_rfl

-- MRules
noncomputable def bltTab : List (Str × Value) := [(Str.ofString "abs", .builtin "abs"), (Str.ofString "int", .type "int"), (Str.ofString "len", .builtin "len"), (Str.ofString "sum", .builtin "sum"), (Str.ofString "max", .builtin "max"), (Str.ofString "range", .type "range"), (Str.ofString "list", .type "list"), (Str.ofString "tuple", .type "tuple"), (Str.ofString "isinstance", .builtin "isinstance"), (Str.ofString "bool", .type "bool")]

structure Ok (w : World) (h₀ : Heap) : Prop where
  X : (kk w.params).In h₀
  lim : h₀.NoLimit
  gl : ∃ mg, h₀.Ns mainGlobals mg
  blt : ∃ mb, h₀.Ns builtinsNs mb ∧ ∀ x v, bltTab.lookup x = some v → mb x = some v

noncomputable def Exc0 (o : Obj) : Prop := ∃ vs, o.data = .fields vs ∧ vs[2]? = some .none
noncomputable def Calm (c : Cfg) : Prop := c.A.handled = none ∨ ∃ e o, c.A.handled = some (.ref e) ∧ (e, o) ∈ c.FR ∧ Exc0 o

structure Fn (c : Cfg) (sc : Scope) : Prop where
  scope : c.env.scope = sc
  kind : sc.kind = .function
  glob : c.env.globals = mainGlobals
  blts : c.env.builtins = builtinsNs
  ok : Ok c.w c.h₀
  calm : Calm c
noncomputable def Hn (c : Cfg) : Prop := c.A.handled = none
noncomputable def Room (c : Cfg) (k : Nat) : Prop := c.A.depth + k < recursionLimit ∧ c.A.units + 4 * k < cLine
theorem Room.le {c : Cfg} {k j : Nat} (h : Room c k) (hj : j ≤ k) : Room c j := ⟨by have := h.1; omega, by have := h.2; omega⟩

structure Sub (c c' : Cfg) : Prop where
  prog : c'.prog = c.prog
  w : c'.w = c.w
  h₀ : c'.h₀ = c.h₀
  depth : c'.A.depth ≤ c.A.depth + 1
  units : c'.A.units ≤ c.A.units + 3
theorem Sub.room {c c' : Cfg} {k : Nat} (s : Sub c c') (h : Room c (k + 1)) : Room c' k := ⟨by have := h.1; have := s.depth; omega, by have := h.2; have := s.units; omega⟩

noncomputable def retv : Flow → Value | .ret v => v | _ => .none

section
variable {α β : Type} {c : Cfg} {m : Mp} {H : Led} {sc : Scope}
theorem W_glob {x : Str} {pos : Pos} {v : Value} {P : Value → Mp → Led → Prop} (f : Fn c sc) (hx : sc.names.lookup x = some .globalImplicit) (e : nsIn (kk c.w.params) mainGlobals x = some (some v)) (h : P v m H)
    (hd : (x == ("__debug__" : Str)) = false := by decide) : W c (eval (.Name x pos) c.env) m H P := fun s I => by
  obtain ⟨mg, hg⟩ := f.ok.gl
  refine Calls.Name_function_global (by rw [f.scope]; exact f.kind) (by unfold Env.kindOf; rw [f.scope]; exact hx) (Calls.loadGlobal_global (mg := mg) (by rw [f.glob]; exact hg.keeps I.F.keep) (mg_of f.ok.X hg e) ⟨m, H, I, h⟩) hd
theorem W_blt {x : Str} {pos : Pos} {v : Value} {P : Value → Mp → Led → Prop} (f : Fn c sc) (hx : sc.names.lookup x = some .globalImplicit) (e : nsIn (kk c.w.params) mainGlobals x = some none) (hb : bltTab.lookup x = some v) (h : P v m H)
    (hd : (x == ("__debug__" : Str)) = false := by decide) : W c (eval (.Name x pos) c.env) m H P := fun s I => by
  obtain ⟨mg, hg⟩ := f.ok.gl
  obtain ⟨mb, hb1, hb2⟩ := f.ok.blt
  exact Calls.Name_function_global (by rw [f.scope]; exact f.kind) (by unfold Env.kindOf; rw [f.scope]; exact hx)
    (Calls.loadGlobal_builtin (mg := mg) (mb := mb) (by rw [f.glob]; exact hg.keeps I.F.keep) (mg_none_of f.ok.X hg e) (by rw [f.blts]; exact hb1.keeps I.F.keep) (hb2 _ _ hb) ⟨m, H, I, h⟩) hd

/-- a call of one of the text's defs: its body is run on a frame of its own -/
theorem C_call {name qual : Str} {params : Arguments} {body : List Stmt} {scope : Scope} {dV kV doc pm cdv ct : Value} {f : Addr} {args : Args} {binds : List (Str × Value)} {k : Nat} {R : Result → Shared → Prop} {s : Shared}
    (fc : Fn c sc) (I : Inv c m H s) (ho : (kk c.w.params).lookup f = some ⟨.type "function", none, .func (fnOf name qual params body scope dV kV doc pm none cdv ct), #[]⟩) (hcd : codeIn (kk c.w.params) cdv qual = true)
    {A : Around} (hA : A.handled = c.A.handled) (hdep : A.depth + 1 + k < recursionLimit) (hun : A.units + 3 + 4 * k < cLine)
    (hb : ∀ s : Shared, (kk c.w.params).In s.heap → BindsTo s (fnOf name qual params body scope dV kV doc pm none cdv ct) args binds) (hloc : ∀ y ∈ binds, scope.names.lookup y.1 = some .local)
    (hcell : ∀ x ∈ scope.names, x.2 ≠ .cell) (hco : scope.isCoroutine = false) (hgen : scope.isGenerator = false) (hk : scope.kind = .function)
    (h : ∀ c' : Cfg, c'.prog = c.prog → c'.w = c.w → c'.h₀ = c.h₀ → c'.A = A.deeper c'.env → (c'.E = fun e s' => wpAny (model c.prog c.w) (A.deeper c'.env) (leaving c'.env e) (fun _ s'' => R (.error e) s'') (fun e' s'' => R (.error e') s'') s') →
      Fn c' scope → Room c' k → (∀ m' H' s' v, Inv c' m' H' s' → (Inv c m H' s' → R (.ok (.ret v)) s') → R (.ok (.ret v)) s') →
      W c' (execs body c'.env) binds.reverse H (fun fl _ H' => ∀ s', Inv c m H' s' → R (.ok (.ret (retv fl))) s')) :
    codeAny (model c.prog c.w) A (.call (.ref f) args) R s := by
  have X := fc.ok.X.keeps I.F.keep
  refine codeAny_call_def (fd := fnOf name qual params body scope dV kV doc pm none cdv ct) (body := body) (binds := binds) (by omega) (X _ _ ho) rfl (fc.ok.lim.keeps I.F.keep) (codeRec_of X hcd) rfl (hb s X) hcell hloc (fun h₁ hns hk₁ => ?_) hco hgen hk
  obtain ⟨oL, es, ep, hL, hLd, hLk, hLf⟩ := I.F.ns
  let env' := callEnv (fnOf name qual params body scope dV kV doc pm none cdv ct) s.heap.objs.size f
  let c' : Cfg := { prog := c.prog, w := c.w, A := A.deeper env', E := fun e s' => wpAny (model c.prog c.w) (A.deeper env') (leaving env' e) (fun _ s'' => R (.error e) s'') (fun e' s'' => R (.error e') s'') s', h₀ := c.h₀, FR := (c.L, oL) :: c.FR, env := env', gens := c.gens, drawn := c.drawn, os := c.os }
  have hLs : c.L < s.heap.objs.size := Heap.lt_size hL
  have I' : Inv c' binds.reverse H { s with heap := h₁, toks := s.toks + binds.length } := by
    refine ⟨I.gens, I.drawn, I.os, ⟨_, ⟨hns, fun b o e => hk₁ _ _ (I.F.keep b o e), Nat.le_of_lt (Nat.lt_of_le_of_lt I.F.above hLs)⟩, fun _ _ e => e⟩, ?_, ?_⟩
    · intro p hp
      have : p ∈ H ++ c.FR ∨ p = (c.L, oL) := by
        rcases List.mem_append.mp hp with q | q
        · exact .inl (List.mem_append_left _ q)
        · rcases List.mem_cons.mp q with q | q
          · exact .inr q
          · exact .inl (List.mem_append_right _ q)
      rcases this with q | rfl
      · exact ⟨hk₁ _ _ (I.N p q).1, Nat.ne_of_lt (I.lt p q), (I.N p q).2.2⟩
      · refine ⟨hk₁ _ _ hL, Nat.ne_of_lt hLs, ?_⟩
        cases q : c.h₀.get? c.L with
        | none => rfl
        | some o => exact absurd (Heap.lt_size q) (Nat.not_lt.mpr I.F.above)
    · intro p hp q hq
      rcases List.mem_cons.mp hq with rfl | hq
      · exact (I.N p (List.mem_append_left _ hp)).2.1
      · exact I.ap p hp q hq
  have back : ∀ m' H' s', Inv c' m' H' s' → Inv c m H' s' := by
    intro m' H' s' J
    have hLn : s'.heap.get? c.L = some oL := (J.N (c.L, oL) (List.mem_append_right _ (.head _))).1
    refine ⟨J.gens, J.drawn, J.os, ⟨_, ⟨⟨oL, es, ep, hLn, hLd, hLk, hLf⟩, J.F.keep, I.F.above⟩, I.kn⟩, ?_, fun p hp q hq => J.ap p hp q (.tail _ hq)⟩
    intro p hp
    have hp' : p ∈ H' ++ c'.FR := by
      rcases List.mem_append.mp hp with q | q
      · exact List.mem_append_left _ q
      · exact List.mem_append_right _ (.tail _ q)
    refine ⟨(J.N p hp').1, ?_, (J.N p hp').2.2⟩
    rcases List.mem_append.mp hp with q | q
    · exact J.ap p q (c.L, oL) (.head _)
    · exact (I.N p (List.mem_append_right _ q)).2.1
  have fc' : Fn c' scope := ⟨rfl, hk, rfl, rfl, fc.ok, by
    rcases fc.calm with q | ⟨e, o, q1, q2, q3⟩
    · exact .inl (hA.trans q)
    · exact .inr ⟨e, o, hA.trans q1, .tail _ q2, q3⟩⟩
  have hr : Room c' k := ⟨by show A.depth + 1 + k < _; exact hdep, by show A.units + 3 + 4 * k < _; exact hun⟩
  have z := h c' rfl rfl rfl rfl rfl fc' hr (fun m' H' s' v J q => q (back m' H' s' J))
  refine wpAny_mono (z _ I') (fun fl s' ⟨m', H', J, p⟩ => ?_) fun _ _ e => e
  have := p s' (back m' H' s' J)
  cases fl <;> exact this
theorem W_call {name qual : Str} {params : Arguments} {body : List Stmt} {scope : Scope} {dV kV doc pm cdv ct : Value} {f : Addr} {pos : List Value} {kw : List (Str × Value)} {binds : List (Str × Value)} {k : Nat} {P : Value → Mp → Led → Prop}
    (fc : Fn c sc) (room : Room c (k + 1)) (ho : (kk c.w.params).lookup f = some ⟨.type "function", none, .func (fnOf name qual params body scope dV kV doc pm none cdv ct), #[]⟩) (hcd : codeIn (kk c.w.params) cdv qual = true)
    (hb : ∀ s : Shared, (kk c.w.params).In s.heap → BindsTo s (fnOf name qual params body scope dV kV doc pm none cdv ct) ⟨pos, kw⟩ binds) (hloc : ∀ y ∈ binds, scope.names.lookup y.1 = some .local)
    (hcell : ∀ x ∈ scope.names, x.2 ≠ .cell) (hco : scope.isCoroutine = false) (hgen : scope.isGenerator = false) (hk : scope.kind = .function)
    (h : ∀ c' : Cfg, c'.w = c.w → Fn c' scope → Room c' k → (Hn c → Hn c') → W c' (execs body c'.env) binds.reverse H (fun fl _ H' => P (retv fl) m H')) : W c (call (.ref f) pos kw) m H P := fun s I => by
  refine wpAny_call (C_call fc I ho hcd rfl (k := k) (by have := room.1; omega) (by have := room.2; omega) hb hloc hcell hco hgen hk fun c' _ hw _ hA _ fc' hr _ => ?_)
  exact W_mono (h c' hw fc' hr (fun e => by show c'.A.handled = none; rw [hA]; exact e)) fun fl _ H' p s' J => ⟨m, H', J, p⟩
end

-- MExpr
section
variable {α β : Type} {c : Cfg} {m : Mp} {H : Led} {sc : Scope}
-- chains, and, or
theorem T_chain2 {l r₁ r₂ : Expr} {op₁ op₂ : CmpOp} {pos : Pos} {whole : Sem Value} {P : Bool → Mp → Led → Prop}
    (h : W c (eval l c.env) m H fun a m₁ H₁ => W c (eval r₁ c.env) m₁ H₁ fun b m₂ H₂ => W c (compareOp op₁ a b) m₂ H₂ fun v m₃ H₃ => W c (truthy v) m₃ H₃ fun t m₄ H₄ =>
      if t then W c (eval r₂ c.env) m₄ H₄ fun d m₅ H₅ => W c (compareOp op₂ b d) m₅ H₅ fun u m₆ H₆ => W c (truthy u) m₆ H₆ P else P false m₄ H₄)
    (hm : lastMarks [op₁, op₂] [r₁, r₂] = false := by with_unfolding_all rfl) : W c (isTrue (.Compare l [op₁, op₂] [r₁, r₂] pos) c.env whole) m H P := fun s I => by
  refine isTrue_chain (rs := []) (W_use h I fun a s₁ m₁ H₁ I₁ h₁ => ?_) hm
  show wpAny _ _ (do
    let rv ← holding [a] (eval r₁ c.env)
    standAt pos
    let v ← holding [a, rv] (compareOp op₁ a rv)
    release [a, rv] [v]
    if ← holding [v, rv] (truthy v) then testChain pos rv [op₂] [eval r₂ c.env] else pure false) _ _ _
  refine wpAny_bind (wpAny_holding (W_use h₁ I₁ fun b s₂ m₂ H₂ I₂ h₂ => ?_))
  refine wpAny_bind (wpAny_standAt (wpAny_bind (wpAny_holding (W_use h₂ I₂ fun v s₃ m₃ H₃ I₃ h₃ => ?_))))
  refine wpAny_bind (wpAny_release (wpAny_bind (wpAny_holding (W_use h₃ I₃ fun t s₄ m₄ H₄ I₄ h₄ => ?_))))
  cases t with
  | false => exact wpAny_pure ⟨_, _, I₄, h₄⟩
  | true =>
    refine wpAny_bind (wpAny_holding (W_use h₄ I₄ fun d s₅ m₅ H₅ I₅ h₅ => ?_))
    refine wpAny_bind (wpAny_standAt (wpAny_bind (wpAny_operateT (W_use h₅ I₅ fun u s₆ m₆ H₆ I₆ h₆ => ?_))))
    exact wpAny_holding (h₆ _ I₆)
theorem W_chain2 {l r₁ r₂ : Expr} {op₁ op₂ : CmpOp} {pos : Pos} {P : Value → Mp → Led → Prop}
    (h : W c (eval l c.env) m H fun a m₁ H₁ => W c (eval r₁ c.env) m₁ H₁ fun b m₂ H₂ => W c (compareOp op₁ a b) m₂ H₂ fun v m₃ H₃ => W c (truthy v) m₃ H₃ fun t m₄ H₄ =>
      if t then W c (eval r₂ c.env) m₄ H₄ fun d m₅ H₅ => W c (compareOp op₂ b d) m₅ H₅ P else P v m₄ H₄)
    (hm : lastMarks [op₁, op₂] [r₁, r₂] = false := by with_unfolding_all rfl) : W c (eval (.Compare l [op₁, op₂] [r₁, r₂] pos) c.env) m H P := fun s I => by
  refine Compare_chain (rs := []) (W_use h I fun a s₁ m₁ H₁ I₁ h₁ => ?_) hm
  show wpAny _ _ (do
    let rv ← holding [a] (eval r₁ c.env)
    standAt pos
    let v ← holding [a, rv] (compareOp op₁ a rv)
    release [a, rv] [v]
    if ← holding [v, rv] (truthy v) then compareChain pos rv [op₂] [eval r₂ c.env] else pure v) _ _ _
  refine wpAny_bind (wpAny_holding (W_use h₁ I₁ fun b s₂ m₂ H₂ I₂ h₂ => ?_))
  refine wpAny_bind (wpAny_standAt (wpAny_bind (wpAny_holding (W_use h₂ I₂ fun v s₃ m₃ H₃ I₃ h₃ => ?_))))
  refine wpAny_bind (wpAny_release (wpAny_bind (wpAny_holding (W_use h₃ I₃ fun t s₄ m₄ H₄ I₄ h₄ => ?_))))
  cases t with
  | false => exact wpAny_pure ⟨_, _, I₄, h₄⟩
  | true =>
    refine wpAny_bind (wpAny_holding (W_use h₄ I₄ fun d s₅ m₅ H₅ I₅ h₅ => ?_))
    exact wpAny_bind (wpAny_standAt (wpAny_operateT (h₅ _ I₅)))
theorem T_and_nil {pos : Pos} {whole : Sem Value} {P : Bool → Mp → Led → Prop} (h : P true m H) : W c (isTrue (.BoolOp .And [] pos) c.env whole) m H P := fun s I => isTrue_and_nil ⟨_, _, I, h⟩
theorem T_or_nil {pos : Pos} {whole : Sem Value} {P : Bool → Mp → Led → Prop} (h : P false m H) : W c (isTrue (.BoolOp .Or [] pos) c.env whole) m H P := fun s I => isTrue_or_nil ⟨_, _, I, h⟩
theorem T_and {x : Expr} {rest : List Expr} {pos : Pos} {whole : Sem Value} {P : Bool → Mp → Led → Prop}
    (h : W c (isTrue x c.env (eval x c.env)) m H fun t m₁ H₁ => if t then W c (isTrue (.BoolOp .And rest pos) c.env whole) m₁ H₁ P else P false m₁ H₁) : W c (isTrue (.BoolOp .And (x :: rest) pos) c.env whole) m H P :=
  fun s I => isTrue_and (W_use h I fun t _ _ _ I₁ h₁ => by cases t <;> first | exact ⟨_, _, I₁, h₁⟩ | exact h₁ _ I₁)
theorem T_or {x : Expr} {rest : List Expr} {pos : Pos} {whole : Sem Value} {P : Bool → Mp → Led → Prop}
    (h : W c (isTrue x c.env (eval x c.env)) m H fun t m₁ H₁ => if t then P true m₁ H₁ else W c (isTrue (.BoolOp .Or rest pos) c.env whole) m₁ H₁ P) : W c (isTrue (.BoolOp .Or (x :: rest) pos) c.env whole) m H P :=
  fun s I => isTrue_or (W_use h I fun t _ _ _ I₁ h₁ => by cases t <;> first | exact ⟨_, _, I₁, h₁⟩ | exact h₁ _ I₁)
theorem T_ifexp {t b o : Expr} {pos : Pos} {whole : Sem Value} {P : Bool → Mp → Led → Prop} (h : W c (isTrue t c.env (eval t c.env)) m H fun x m₁ H₁ => if x then W c (isTrue b c.env (eval b c.env)) m₁ H₁ P else W c (isTrue o c.env (eval o c.env)) m₁ H₁ P) :
    W c (isTrue (.IfExp t b o pos) c.env whole) m H P :=
  fun _ I => PyProof.Rows.isTrue_IfExp (W_use h I fun b _ _ _ I₁ h₁ => by cases b <;> exact h₁ _ I₁)
theorem T_val {e : Expr} {whole : Sem Value} {P : Bool → Mp → Led → Prop} (h : W c whole m H fun v m₁ H₁ => W c (truthy v) m₁ H₁ P)
    (he : isTrue e c.env whole = (do let v ← whole; standAt e.pos; holding [v] (truthy v)) := by rfl) : W c (isTrue e c.env whole) m H P :=
  fun _ I => wpAny_isTrue_value (W_use h I fun _ _ _ _ I₁ h₁ => h₁ _ I₁) he
theorem T_int {a : Int} {t : Tok} {P : Bool → Mp → Led → Prop} (h : P (a != 0) m H) : W c (truthy (.int a t)) m H P := fun s I => PySem.P.truthy_int ⟨_, _, I, h⟩
theorem T_none {P : Bool → Mp → Led → Prop} (h : P false m H) : W c (truthy .none) m H P := fun s I => truthy_none ⟨_, _, I, h⟩
noncomputable def boolGo (op : BoolOp) (t : Bool) : Bool := match op, t with | .And, false | .Or, true => false | _, _ => true
theorem W_bool {op : BoolOp} {vs : List Expr} {pos : Pos} {P : Value → Mp → Led → Prop} (h : W c (boolOp pos op (evalEach vs c.env)) m H P) : W c (eval (.BoolOp op vs pos) c.env) m H P := h
theorem W_bool1 {op : BoolOp} {x : Expr} {pos : Pos} {P : Value → Mp → Led → Prop} (h : W c (eval x c.env) m H P) : W c (boolOp pos op (evalEach [x] c.env)) m H P := h
theorem W_and2 {x y : Expr} {rest : List Expr} {pos : Pos} {P : Value → Mp → Led → Prop}
    (h : W c (eval x c.env) m H fun v m₁ H₁ => W c (truthy v) m₁ H₁ fun t m₂ H₂ => if t then W c (boolOp pos .And (evalEach (y :: rest) c.env)) m₂ H₂ P else P v m₂ H₂) : W c (boolOp pos .And (evalEach (x :: y :: rest) c.env)) m H P := fun s I => by
  show wpAny _ _ (do
    let v ← eval x c.env
    standAt pos
    let t ← holding [v] (truthy v)
    match BoolOp.And, t with
    | .And, false | .Or, true => pure v
    | _, _ => boolOp pos .And (evalEach (y :: rest) c.env)) _ _ _
  refine wpAny_bind (W_use h I fun v s₁ m₁ H₁ I₁ h₁ => ?_)
  refine wpAny_bind (wpAny_standAt (wpAny_bind (wpAny_holding (W_use h₁ I₁ fun t s₂ m₂ H₂ I₂ h₂ => ?_))))
  cases t with
  | false => exact wpAny_pure ⟨_, _, I₂, h₂⟩
  | true => exact h₂ _ I₂
-- arguments
theorem A_nil {pos : Pos} {P : List Value → Mp → Led → Prop} (h : P [] m H) : W c (spliced (backTo pos (starEach [] c.env))) m H P := fun s I => Calls.spliced_nil ⟨_, _, I, h⟩
theorem A_cons {e : Expr} {rest : List Expr} {pos : Pos} {P : List Value → Mp → Led → Prop}
    (h : W c (eval e c.env) m H fun v m₁ H₁ => W c (spliced (backTo pos (starEach rest c.env))) m₁ H₁ fun vs m₂ H₂ => P (v :: vs) m₂ H₂) (he : starEach (e :: rest) c.env = (false, eval e c.env) :: starEach rest c.env := by rfl) :
    W c (spliced (backTo pos (starEach (e :: rest) c.env))) m H P := fun s I => by
  rw [he]
  exact Calls.spliced_cons (W_use h I fun v _ _ _ I₁ h₁ => W_use h₁ I₁ fun vs _ _ _ I₂ h₂ => ⟨_, _, I₂, h₂⟩)
-- calls
noncomputable def Kp (c : Cfg) (f : Value) : Prop := ∀ h, (kk c.w.params).In h → ∃ k, (k = Keeper.frame ∨ k = Keeper.machine ∨ k = Keeper.boundFrame) ∧ Looks (model c.prog c.w) h (keeperOf f) k
theorem Kp.of_ref {a : Addr} (h : keepIn (kk c.w.params) (.ref a) = true) : Kp c (.ref a) := keeps_K h
theorem Kp.of_builtin {i : String} : Kp c (.builtin i) := fun _ _ => ⟨_, .inr (.inl rfl), Looks.of_pure rfl⟩
theorem Kp.of_type {i : String} : Kp c (.type i) := fun _ _ => ⟨_, .inr (.inl rfl), Looks.of_pure rfl⟩
theorem W_callf {x : Str} {p pos : Pos} {args : List Expr} {P : Value → Mp → Led → Prop}
    (h : W c (eval (.Name x p) c.env) m H fun f m₁ H₁ => W c (callWith pos f [] (backTo pos (starEach args c.env)) []) m₁ H₁ P) : W c (eval (.Call (.Name x p) args [] pos) c.env) m H P := fun s I => by
  show wpAny _ _ (do callWith pos (← eval (.Name x p) c.env) [] (backTo pos (starEach args c.env)) (backToKw pos (keywordEach [] c.env))) _ _ _
  exact wpAny_bind (W_use h I fun f _ _ _ I₁ h₁ => h₁ _ I₁)
theorem W_cw {pos : Pos} {f : Value} {first : List Value} {e : Expr} {args : List Expr} {P : Value → Mp → Led → Prop} (fc : Fn c sc) (hk : Kp c f)
    (h : W c (spliced (backTo pos (starEach (e :: args) c.env))) m H fun vs m₁ H₁ => W c (call f (first ++ vs)) m₁ H₁ P)
    (he : starEach (e :: args) c.env = (false, eval e c.env) :: starEach args c.env := by rfl) (hplain : (backTo pos (starEach args c.env)).any (·.1) = false := by rfl) :
    W c (callWith pos f first (backTo pos (starEach (e :: args) c.env)) []) m H P := fun s I => by
  rw [he] at h ⊢
  exact callWith_of (P := fun h => (kk c.w.params).In h) (by show ((false || (backTo pos (starEach args c.env)).any (·.1)) || false) = false; rw [hplain]; rfl) hk
    (Calls.evalArgs_plain (W_use h I fun vs s₁ _ _ I₁ h₁ => ⟨fc.ok.X.keeps I₁.F.keep, h₁ _ I₁⟩))
theorem W_cw0 {pos : Pos} {f : Value} {first : List Value} {P : Value → Mp → Led → Prop} (fc : Fn c sc) (hk : Kp c f) (h : W c (call f first) m H P) : W c (callWith pos f first (backTo pos (starEach [] c.env)) []) m H P := fun s I =>
  callWith_of (P := fun h => (kk c.w.params).In h) rfl hk (PyProof.Rows.evalArgs_nil3 ⟨fc.ok.X.keeps I.F.keep, by rw [List.append_nil]; exact h _ I⟩)
end

-- MHeap
theorem ift {b : Bool} {X Y : Prop} (h : b = true) (x : X) : if b = true then X else Y := by rw [if_pos h]; exact x
theorem iff' {b : Bool} {X Y : Prop} (h : b = false) (y : Y) : if b = true then X else Y := by rw [if_neg (by rw [h]; decide)]; exact y
theorem ifs {b : Bool} {X Y : Prop} (x : b = true → X) (y : b = false → Y) : if b = true then X else Y := by cases b; exact y rfl; exact x rfl
/-- what follows a statement -/
noncomputable def Seq (c : Cfg) (rest : List Stmt) (P : Flow → Mp → Led → Prop) : Flow → Mp → Led → Prop
  | .next, m, H => W c (execs rest c.env) m H P
  | f, m, H => P f m H

section
variable {α β : Type} {c : Cfg} {m : Mp} {H : Led} {sc : Scope} {s : Shared}
theorem Seq_next {rest : List Stmt} {P : Flow → Mp → Led → Prop} (h : W c (execs rest c.env) m H P) : Seq c rest P .next m H := h
theorem Seq_ret {rest : List Stmt} {v : Value} {P : Flow → Mp → Led → Prop} (h : P (.ret v) m H) : Seq c rest P (.ret v) m H := h
theorem Seq_cont {rest : List Stmt} {P : Flow → Mp → Led → Prop} (h : P .cont m H) : Seq c rest P .cont m H := h
theorem S_seq {st : Stmt} {rest : List Stmt} {P : Flow → Mp → Led → Prop} (h : W c (exec st c.env) m H (Seq c rest P)) : W c (execs (st :: rest) c.env) m H P :=
  fun _ I => wpAny_execs_cons (W_use h I fun f _ _ _ I₁ h₁ => by cases f <;> first | exact h₁ _ I₁ | exact ⟨_, _, I₁, h₁⟩)

-- the ledger
theorem Inv.keeps (I : Inv c m H s) {h' : Heap} {tk : Nat} (hk : ∀ b o, s.heap.get? b = some o → h'.get? b = some o) : Inv c m H { s with heap := h', toks := tk } :=
  I.upto (I.F.keeps hk) I.kn (fun p hp => ⟨hk _ _ (I.N p hp).1, (I.N p hp).2⟩) I.ap
theorem Inv.sub (I : Inv c m H s) {H' : Led} (h : ∀ p ∈ H', p ∈ H) : Inv c m H' s :=
  ⟨I.gens, I.drawn, I.os, I.Fx, fun p hp => I.N p (by rcases List.mem_append.mp hp with q | q; exact List.mem_append_left _ (h p q); exact List.mem_append_right _ q), fun p hp => I.ap p (h p hp)⟩
theorem Inv.fresh (I : Inv c m H s) : ∀ p ∈ H, p.1 ≠ s.heap.objs.size := fun p hp => Nat.ne_of_lt (I.lt p (List.mem_append_left _ hp))
theorem Inv.push (I : Inv c m H s) (o : Obj) {tk : Nat} (hf : o.isFreed = false := by rfl) : Inv c m ((s.heap.objs.size, o) :: H) { s with heap := s.heap.push o, toks := tk } :=
  I.upto (I.F.push o) I.kn (I.N.push I.F o hf) fun p hp q hq => by
    rcases List.mem_cons.mp hp with rfl | hp
    · exact Nat.ne_of_gt (I.lt q (List.mem_append_right _ hq))
    · exact I.ap p hp q hq
theorem Inv.put (I : Inv c m H s) {D : Addr} {o o' : Obj} {h' : Heap} {tk : Nat} {H' : Led} (hm : (D, o) ∈ H) (hs : Heap.SameBut D s.heap h') (ho : h'.get? D = some o') (hH : ∀ p ∈ H', p = (D, o') ∨ (p ∈ H ∧ p.1 ≠ D)) :
    Inv c m H' { s with heap := h', toks := tk } := by
  have z := I.N (D, o) (List.mem_append_left _ hm)
  refine I.upto (I.F.change hs z.2.1 z.2.2) I.kn ?_ ?_
  · intro p hp
    rcases List.mem_append.mp hp with q | q
    · rcases hH p q with rfl | ⟨h1, h2⟩
      · exact ⟨ho, z.2⟩
      · have y := I.N p (List.mem_append_left _ h1); exact ⟨(hs.2 _ h2).trans y.1, y.2⟩
    · have y := I.N p (List.mem_append_right _ q)
      exact ⟨(hs.2 _ (fun e => I.ap _ hm p q e.symm)).trans y.1, y.2⟩
  · intro p hp q hq
    rcases hH p hp with rfl | ⟨h1, h2⟩
    · exact I.ap (D, o) hm q hq
    · exact I.ap p h1 q hq
theorem Upd.has {D : Addr} {o o' : Obj} : ∀ {H H' : Led}, Upd D o o' H H' → (D, o) ∈ H ∧ (∀ p ∈ H', p = (D, o') ∨ (p ∈ H ∧ p.1 ≠ D))
  | _, _, .head h => ⟨.head _, fun p hp => by rcases List.mem_cons.mp hp with rfl | q; exact .inl rfl; exact .inr ⟨.tail _ q, h p q⟩⟩
  | _, _, .tail h r => ⟨.tail _ (Upd.has r).1, fun p hp => by
      rcases List.mem_cons.mp hp with rfl | q
      · exact .inr ⟨.head _, h⟩
      · rcases (Upd.has r).2 p q with e | ⟨a, b⟩
        · exact .inl e
        · exact .inr ⟨.tail _ a, b⟩⟩
theorem Inv.func (I : Inv c m H s) {a : Addr} {o o' : Obj} (h : (a, o) ∈ H) (h' : (a, o') ∈ H) : o = o' := Option.some.inj ((I.at_ h).symm.trans (I.at_ h'))
/-- a ledger has one object at an address -/
noncomputable def Func (H : Led) : Prop := ∀ a o o', (a, o) ∈ H → (a, o') ∈ H → o = o'
theorem W_func {t : Sem α} {P : α → Mp → Led → Prop} (h : Func H → W c t m H P) : W c t m H P := fun s I => h (fun _ _ _ a b => I.func a b) s I
theorem W_sub {t : Sem α} {H' : Led} {P : α → Mp → Led → Prop} (hs : ∀ p ∈ H', p ∈ H) (h : W c t m H' P) : W c t m H P := fun s I => h s (I.sub hs)
/-- the frame rule -/
theorem W_frame {t : Sem α} {G R : Led} {P : α → Mp → Led → Prop} (ap : ∀ p ∈ G, ∀ q ∈ R, p.1 ≠ q.1)
    (h : W { c with FR := R ++ c.FR } t m G fun v m' G' => (∀ p ∈ G', ∀ q ∈ R, p.1 ≠ q.1) → P v m' (R ++ G')) : W c t m (R ++ G) P := fun s I => by
  have I' : Inv { c with FR := R ++ c.FR } m G s := ⟨I.gens, I.drawn, I.os, I.Fx, fun p hp => I.N p (by
      rcases List.mem_append.mp hp with q | q
      · exact List.mem_append_left _ (List.mem_append_right _ q)
      · rcases List.mem_append.mp q with q | q
        · exact List.mem_append_left _ (List.mem_append_left _ q)
        · exact List.mem_append_right _ q), fun p hp q hq => by
      rcases List.mem_append.mp hq with z | z
      · exact ap p hp q z
      · exact I.ap p (List.mem_append_right _ hp) q z⟩
  refine wpAny_mono (h s I') (fun v s' ⟨m', G', J, p⟩ => ⟨m', R ++ G', ⟨J.gens, J.drawn, J.os, J.Fx, fun p hp => J.N p ?_, ?_⟩, p fun p hp q hq => J.ap p hp q (List.mem_append_left _ hq)⟩) fun _ _ e => e
  · rcases List.mem_append.mp hp with q | q
    · rcases List.mem_append.mp q with q | q
      · exact List.mem_append_right _ (List.mem_append_left _ q)
      · exact List.mem_append_left _ q
    · exact List.mem_append_right _ (List.mem_append_right _ q)
  · intro p hp q hq
    rcases List.mem_append.mp hp with z | z
    · exact I.ap p (List.mem_append_left _ z) q hq
    · exact J.ap p z q (List.mem_append_right _ hq)

-- lists and tuples
noncomputable def IsL (o : Obj) (vs : List Value) : Prop := o.cls = .type "list" ∧ ∃ n, o.data = .seq vs.toArray n
noncomputable def PlL (o : Obj) (vs : List Value) : Prop := ∃ n, o = listOf vs.toArray n
noncomputable def IsT (o : Obj) (vs : List Value) : Prop := o.cls = .type "tuple" ∧ ∃ n, o.data = .seq vs.toArray n
theorem PlL.isL {o : Obj} {vs : List Value} (h : PlL o vs) : IsL o vs := by obtain ⟨n, rfl⟩ := h; exact ⟨rfl, n, rfl⟩
theorem PlL.new {vs : List Value} : PlL (listOf vs.toArray 0) vs := ⟨0, rfl⟩
theorem IsL.new {vs : List Value} : IsL (listOf vs.toArray 0) vs := ⟨rfl, 0, rfl⟩
noncomputable abbrev tupOf (vs : List Value) : Obj := { cls := .type "tuple", data := .seq vs.toArray }
theorem IsT.new {vs : List Value} : IsT (tupOf vs) vs := ⟨rfl, 0, rfl⟩
theorem Inv.lst (I : Inv c m H s) {a : Addr} {o : Obj} {vs : List Value} (h : (a, o) ∈ H) (hl : IsL o vs) : s.heap.IsList a vs.toArray := ⟨o, I.at_ h, hl.1, hl.2⟩
theorem Inv.tup (I : Inv c m H s) {a : Addr} {o : Obj} {vs : List Value} (h : (a, o) ∈ H) (hl : IsT o vs) : IsTup s.heap a vs.toArray := ⟨o, I.at_ h, hl.1, hl.2⟩

theorem W_List {elts : List Expr} {pos : Pos} {P : Value → Mp → Led → Prop} (h : W c (spliced (backTo pos (starEach elts c.env))) m H fun vs m₁ H₁ => W c (newList vs) m₁ H₁ P) : W c (eval (.List elts pos) c.env) m H P :=
  fun _ I => PyProof.Rows.List_ (W_use h I fun _ _ _ _ I₁ h₁ => h₁ _ I₁)
theorem W_Tuple {elts : List Expr} {k : Nat} {pos : Pos} {P : Value → Mp → Led → Prop} (h : W c (spliced (backTo pos (starEach elts c.env))) m H fun vs m₁ H₁ => W c (newTuple vs) m₁ H₁ P) : W c (eval (.Tuple elts k pos) c.env) m H P :=
  fun _ I => PyProof.Rows.Tuple_ (W_use h I fun _ _ _ _ I₁ h₁ => h₁ _ I₁)
theorem N_list {vs : List Value} {P : Value → Mp → Led → Prop} (h : ∀ a, (∀ p ∈ H, p.1 ≠ a) → P (.ref a) m ((a, listOf vs.toArray 0) :: H)) (hsz : vs.length ≤ sizeLine := by size_fits) : W c (newList vs) m H P :=
  fun s I => wpAny_newObj_type ⟨_, _, I.push _, h _ I.fresh⟩ (by show vs.toArray.size ≤ sizeLine; rw [List.size_toArray]; exact hsz)
theorem N_tuple {vs : List Value} {P : Value → Mp → Led → Prop} (h : ∀ a, (∀ p ∈ H, p.1 ≠ a) → P (.ref a) m ((a, tupOf vs) :: H)) (hsz : vs.length ≤ sizeLine := by size_fits) : W c (newTuple vs) m H P :=
  fun s I => wpAny_newObj_type ⟨_, _, I.push _, h _ I.fresh⟩ (by show vs.toArray.size ≤ sizeLine; rw [List.size_toArray]; exact hsz)
theorem W_Sub {value slice : Expr} {pos : Pos} {P : Value → Mp → Led → Prop} (h : W c (eval value c.env) m H fun o m₁ H₁ => W c (eval slice c.env) m₁ H₁ fun i m₂ H₂ => W c (subscriptTail value slice o i) m₂ H₂ P) :
    W c (eval (.Subscript value slice pos) c.env) m H P := fun _ I => PyProof.Rows.Subscript_ (W_use h I fun _ _ _ _ I₁ h₁ => W_use h₁ I₁ fun _ _ _ _ I₂ h₂ => h₂ _ I₂)
theorem X_tup {value slice : Expr} {t : Addr} {o : Obj} {vs : List Value} {k : Int} {u : Tok} {j : Nat} {x : Value} {P : Value → Mp → Led → Prop} (hm : (t, o) ∈ H) (ht : IsT o vs)
    (hj : seqIndex? k vs.length = some j) (hx : vs[j]? = some x) (h : P x m H) (hlo : -(2 ^ 63) ≤ k := by decide) (hhi : k < 2 ^ 63 := by decide)
    (hs : subscripted slice false (.ref t) (.int k u) = operate [.ref t, .int k u] (getItem (.ref t) (.int k u)) := by with_unfolding_all rfl) :
    W c (subscriptTail value slice (.ref t) (.int k u)) m H P := fun s I => item_tupleT (l := vs) (I.tup hm ht) hlo hhi hj hx ⟨_, _, I, h⟩ hs
theorem X_lst {value slice : Expr} {t : Addr} {o : Obj} {vs : List Value} {k : Int} {u : Tok} {x : Value} {P : Value → Mp → Led → Prop} (hm : (t, o) ∈ H) (ht : IsL o vs)
    (h0 : 0 ≤ k) (hx : vs[k.toNat]? = some x) (h : P x m H) (hhi : k < 2 ^ 63)
    (hs : subscripted slice false (.ref t) (.int k u) = operate [.ref t, .int k u] (getItem (.ref t) (.int k u)) := by with_unfolding_all rfl) :
    W c (subscriptTail value slice (.ref t) (.int k u)) m H P := fun s I =>
  tail_any (I.lst hm ht).typeIs slot_list_getitem.lookup (wpAny_getItem_list (x := x) (I.lst hm ht) h0 hhi (by simpa using hx) ⟨_, _, I, h⟩) hs
theorem X_lstNeg {value slice : Expr} {t : Addr} {o : Obj} {vs : List Value} {k : Int} {u : Tok} {j : Nat} {x : Value} {P : Value → Mp → Led → Prop} (hm : (t, o) ∈ H) (ht : IsL o vs)
    (h0 : k < 0) (hj : seqIndex? k vs.length = some j) (hx : vs[j]? = some x) (h : P x m H) (hlo : -(2 ^ 63) ≤ k := by decide)
    (hs : subscripted slice false (.ref t) (.int k u) = operate [.ref t, .int k u] (getItem (.ref t) (.int k u)) := by with_unfolding_all rfl) :
    W c (subscriptTail value slice (.ref t) (.int k u)) m H P := fun s I => PySem.W.kde_neg (I.lst hm ht) h0 hlo hj hx ⟨_, _, I, h⟩ hs
theorem G_item {t : Addr} {o : Obj} {vs : List Value} {k : Int} {u : Tok} {x : Value} {P : Value → Mp → Led → Prop} (hm : (t, o) ∈ H) (ht : IsL o vs)
    (h0 : 0 ≤ k) (hx : vs[k.toNat]? = some x) (h : P x m H) (hhi : k < 2 ^ 63) : W c (getItem (.ref t) (.int k u)) m H P := fun s I =>
  wpAny_getItem_list (x := x) (I.lst hm ht) h0 hhi (by simpa using hx) ⟨_, _, I, h⟩
theorem P_item {t : Addr} {o : Obj} {vs : List Value} {k : Int} {u : Tok} {v : Value} {P : Unit → Mp → Led → Prop} (hm : (t, o) ∈ H) (ht : IsL o vs)
    (h0 : 0 ≤ k) (hn : k < vs.length) (hhi : k < 2 ^ 63) (h : ∀ o' : Obj, IsL o' (vs.set k.toNat v) → ∃ H'' : Led, (∀ p ∈ H'', p = (t, o') ∨ (p ∈ H ∧ p.1 ≠ t)) ∧ P () m H'') : W c (setItem (.ref t) (.int k u) v) m H P := fun s I =>
  wpAny_setItem_list (I.lst hm ht) h0 hhi (by simpa using hn) fun h' hl hs => by
    obtain ⟨o', ho, hc, n, hd⟩ := hl
    obtain ⟨H'', hH, p⟩ := h o' ⟨hc, n, by rw [hd]; simp⟩
    exact ⟨_, H'', I.put hm hs ho hH, p⟩
theorem M_append {D : Addr} {o : Obj} {vs : List Value} {pl : Sem Bool} {P : Value × List Value → Mp → Led → Prop} (hm : (D, o) ∈ H) (hl : PlL o vs) (h : P (.builtin "list.append", [.ref D]) m H) :
    W c (getMethod (.ref D) "append" pl) m H P := fun s I => by obtain ⟨n, rfl⟩ := hl; exact Calls.getMethod_list_append (I.at_ hm) rfl rfl ⟨_, _, I, h⟩
theorem C_append {D : Addr} {o : Obj} {vs : List Value} {x : Value} {P : Value → Mp → Led → Prop} (hm : (D, o) ∈ H) (hl : PlL o vs) (hz : vs.length ≤ sizeLine)
    (h : ∀ o', PlL o' (vs ++ [x]) → ∃ H'' : Led, (∀ p ∈ H'', p = (D, o') ∨ (p ∈ H ∧ p.1 ≠ D)) ∧ P .none m H'') : W c (call (.builtin "list.append") ([.ref D] ++ [x])) m H P := fun s I => by
  obtain ⟨n, rfl⟩ := hl
  refine append_at (I.at_ hm) (fun h' hs ho => ?_) (by simpa using hz)
  obtain ⟨H'', hH, p⟩ := h (listOf (vs ++ [x]).toArray (n + 1)) ⟨_, rfl⟩
  exact ⟨_, H'', I.put hm hs (by rw [ho]; simp) hH, p⟩
-- the updated head
theorem put_head {D : Addr} {o o' : Obj} {G : Led} (f : ∀ p ∈ G, p.1 ≠ D) : ∀ p ∈ (D, o') :: G, p = (D, o') ∨ (p ∈ (D, o) :: G ∧ p.1 ≠ D) := (Upd.has (Upd.head (o := o) f)).2

-- attributes
inductive Ents : List (Str × Value) → List DictEntry → Prop
  | nil : Ents [] []
  | cons {y v h t g es} : Ents g es → Ents ((y, v) :: g) (⟨h, .str y t, v⟩ :: es)
theorem getL_hit {y z : Str} {h : Int} {t : Tok} {v : Value} {es : List DictEntry} (e : (z == y) = true) : getL y (⟨h, .str z t, v⟩ :: es) = some (some v) := by
  have k : Value.isStr (.str z t) y = (z == y) := rfl
  unfold getL
  rw [List.find?_cons]
  simp only [k, e]
theorem getL_miss {y z : Str} {h : Int} {t : Tok} {v : Value} {es : List DictEntry} (e : (z == y) = false) : getL y (⟨h, .str z t, v⟩ :: es) = getL y es := by
  have k : Value.isStr (.str z t) y = (z == y) := rfl
  have q : (DictEntry.refKey ⟨h, .str z t, v⟩) = false := rfl
  unfold getL
  rw [List.find?_cons, List.any_cons]
  simp only [k, e, q, Bool.false_or]
theorem Ents.get {y : Str} : ∀ {g es}, Ents g es → getL y es = some (g.lookup y)
  | _, _, .nil => rfl
  | _, _, .cons (y := z) (v := v) (g := g) r => by
    have ih := Ents.get (y := y) r
    rw [List.lookup_cons]
    by_cases e : y = z
    · subst e; rw [getL_hit (by simp)]; simp
    · rw [getL_miss (beq_false_of_ne (Ne.symm e)), ih, beq_false_of_ne e]
noncomputable def putA (y : Str) (v : Value) : List (Str × Value) → List (Str × Value)
  | [] => [(y, v)]
  | (z, u) :: g => if z == y then (z, v) :: g else (z, u) :: putA y v g
theorem Ents.put {y : Str} {h : Int} {t : Tok} {v : Value} : ∀ {g es}, Ents g es → Ents (putA y v g) (putL y h (.str y t) v es)
  | _, _, .nil => .cons .nil
  | _, _, .cons (y := z) r => by
    have ih := Ents.put (y := y) (h := h) (t := t) (v := v) r
    cases e : (z == y) with
    | true => simp only [putA, putL, Value.isStr, e, if_true]; exact .cons r
    | false => simp only [putA, putL, Value.isStr, e, Bool.false_eq_true, if_false]; exact .cons ih
theorem Ents.length : ∀ {g es}, Ents g es → es.length = g.length
  | _, _, .nil => rfl
  | _, _, .cons r => by simp [Ents.length r]
theorem putA_length {y : Str} {v : Value} : ∀ g, (putA y v g).length ≤ g.length + 1
  | [] => by simp [putA]
  | (z, u) :: g => by
    simp only [putA]
    split
    · simp
    · have := putA_length (y := y) (v := v) g; simp; omega
/-- an object's own dict -/
noncomputable def IsD (o : Obj) (g : List (Str × Value)) : Prop := ∃ es n, o = dictOf es n ∧ Ents g es
theorem IsD.new : IsD emptyDict [] := ⟨[], 0, rfl, .nil⟩
theorem G_own {x dx C : Addr} {od : Obj} {g : List (Str × Value)} {name : Str} {v : Value} {expr : Bool} {attr : Option Value} {P : Value → Mp → Led → Prop} (f : Fn c sc) (h1 : (x, instObj C dx) ∈ H) (h2 : (dx, od) ∈ H) (hd : IsD od g)
    (hl : g.lookup name = some v) (hg : plainGet (kk c.w.params) C name = true) (hh : hasDictIn (kk c.w.params) C = true) (ha : findIn (kk c.w.params) (.ref C) name = some attr) (hn : noGet (kk c.w.params) attr = true) (hv : handedIn v = true) (h : P v m H) :
    W c (getAttr (.ref x) name expr) m H P := fun s I => by
  obtain ⟨es, n, rfl, e⟩ := hd
  exact get_own I.F f.ok.X ⟨I.at_ h1, rfl, rfl, I.at_ h2⟩ hg hh ha hn (by rw [e.get, hl]) hv ⟨_, _, I.tk _, h⟩
theorem G_cls {x dx C : Addr} {od : Obj} {g : List (Str × Value)} {name : Str} {a : Value} {expr : Bool} {P : Value → Mp → Led → Prop} (f : Fn c sc) (h1 : (x, instObj C dx) ∈ H) (h2 : (dx, od) ∈ H) (hd : IsD od g)
    (hl : g.lookup name = none) (hg : plainGet (kk c.w.params) C name = true) (hh : hasDictIn (kk c.w.params) C = true) (ha : findIn (kk c.w.params) (.ref C) name = some (some a)) (hn : specialIn (kk c.w.params) a "__get__" = some none) (hv : handedIn a = true)
    (hc : copiedNames.contains name = false) (h : P a m H) : W c (getAttr (.ref x) name expr) m H P := fun s I => by
  obtain ⟨es, n, rfl, e⟩ := hd
  exact get_cls I.F f.ok.X ⟨I.at_ h1, rfl, rfl, I.at_ h2⟩ hg hh ha hn hv hc (by rw [e.get, hl]) ⟨_, _, I.tk _, h⟩
theorem M_inst {x dx C : Addr} {od : Obj} {g : List (Str × Value)} {name : Str} {fa : Addr} {pl : Sem Bool} {P : Value × List Value → Mp → Led → Prop} (f : Fn c sc) (h1 : (x, instObj C dx) ∈ H) (h2 : (dx, od) ∈ H) (hd : IsD od g)
    (hl : g.lookup name = none) (hg : plainGet (kk c.w.params) C name = true) (hf : findIn (kk c.w.params) (.ref C) name = some (some (.ref fa))) (ht : isFn (kk c.w.params) (.ref fa) = true) (h : P (.ref fa, [.ref x]) m H) :
    W c (getMethod (.ref x) name pl) m H P := fun s I => by
  obtain ⟨es, n, rfl, e⟩ := hd
  exact method_inst I.F f.ok.X ⟨I.at_ h1, rfl, rfl, I.at_ h2⟩ hg hf ht (by rw [e.get, hl]) ⟨_, _, I, h⟩
theorem P_attr {x dx C : Addr} {od : Obj} {g : List (Str × Value)} {name : Str} {v : Value} {P : Unit → Mp → Led → Prop} (f : Fn c sc) (h1 : (x, instObj C dx) ∈ H) (h2 : (dx, od) ∈ H) (hd : IsD od g)
    (hs : findIn (kk c.w.params) (.ref C) "__setattr__" = some (some (.builtin "object.__setattr__"))) (hp : plainOver (kk c.w.params) C = true) (ht : takerIn (kk c.w.params) C name = some none) (hh : hasDictIn (kk c.w.params) C = true) (hz : g.length ≤ 999)
    (h : ∀ o', IsD o' (putA name v g) → ∃ H'' : Led, (∀ p ∈ H'', p = (dx, o') ∨ (p ∈ H ∧ p.1 ≠ dx)) ∧ P () m H'') : W c (setAttr (.ref x) name v) m H P := fun s I => by
  obtain ⟨es, n, rfl, e⟩ := hd
  have N : News c.h₀ c.L s.heap ((dx, dictOf es n) :: (H.filter fun p => p.1 ≠ dx) ++ c.FR) := fun p hp => I.N p (by
    rcases List.mem_append.mp hp with q | q
    · rcases List.mem_cons.mp q with rfl | q
      · exact List.mem_append_left _ h2
      · exact List.mem_append_left _ ((List.mem_filter.mp q).1)
    · exact List.mem_append_right _ q)
  have fr : ∀ p ∈ (H.filter fun p => p.1 ≠ dx) ++ c.FR, p.1 ≠ dx := fun p hp => by
    rcases List.mem_append.mp hp with q | q
    · simpa using (List.mem_filter.mp q).2
    · exact fun z => I.ap _ h2 p q z.symm
  refine set_dict I.F f.ok.X N ⟨I.at_ h1, rfl, rfl, I.at_ h2⟩ rfl hs hp ht hh (by rw [e.get]; rfl) rfl (Upd.head fr) (by rw [e.put.length]; have := putA_length (y := name) (v := v) g; omega) fun h' F' N' => ?_
  obtain ⟨H'', hH, p⟩ := h _ ⟨_, _, rfl, e.put⟩
  refine ⟨_, H'', I.upto F' I.kn (fun p hp => ?_) (fun p hp q hq => ?_), p⟩
  · rcases List.mem_append.mp hp with q | q
    · rcases hH p q with rfl | ⟨a, b⟩
      · exact N' _ (.head _)
      · exact N' _ (List.mem_cons_of_mem _ (List.mem_append_left _ (List.mem_filter.mpr ⟨a, by simpa using b⟩)))
    · exact N' _ (List.mem_cons_of_mem _ (List.mem_append_right _ q))
  · rcases hH p hp with rfl | ⟨a, b⟩
    · exact I.ap _ h2 q hq
    · exact I.ap p a q hq
theorem W_attr {value : Expr} {attr : Str} {pos : Pos} {P : Value → Mp → Led → Prop} (h : W c (eval value c.env) m H fun o m₁ H₁ => W c (getAttr o attr true) m₁ H₁ P)
    (he : eval (.Attribute value attr pos) c.env = (do
      let o ← eval value c.env
      standAt pos.atName
      let r ← holding [o] (getAttr o attr true)
      letTemporaryGo value o r
      pure r) := by with_unfolding_all rfl) : W c (eval (.Attribute value attr pos) c.env) m H P :=
  fun s I => PyProof.Rows.Attribute_any_ (W_use h I fun _ _ _ _ I₁ h₁ => h₁ _ I₁) he
theorem W_meth {o : Expr} {name : Str} {apos pos : Pos} {args : List Expr} {pl : Sem Bool} {P : Value → Mp → Led → Prop}
    (h : W c (eval o c.env) m H fun ov m₁ H₁ => W c (getMethod ov name pl) m₁ H₁ fun fx m₂ H₂ => W c (callWith pos fx.1 fx.2 (backTo pos (starEach args c.env)) []) m₂ H₂ P)
    (he : eval (.Call (.Attribute o name apos) args [] pos) c.env = (do
      let ov ← eval o c.env
      standAt apos.atName
      let (f, first) ← holding [ov] (getMethod ov name pl)
      callWith pos f first (backTo pos (starEach args c.env)) []) := by rfl) : W c (eval (.Call (.Attribute o name apos) args [] pos) c.env) m H P :=
  fun s I => PyProof.Rows.MethodCall_ (W_use h I fun _ _ _ _ I₁ h₁ => W_use h₁ I₁ fun _ _ _ _ I₂ h₂ => h₂ _ I₂) he
end

-- MCls
theorem wt_tc (C : Addr) (rest : List Value) (kw : List (Str × Value)) : (Code.builtin "type.__call__" ⟨.ref C :: rest, kw⟩).weight = 1 := rfl
theorem un_tc (C : Addr) (rest : List Value) (kw : List (Str × Value)) : (Code.builtin "type.__call__" ⟨.ref C :: rest, kw⟩).cUnits = 1 := rfl
section
variable {α β : Type} {c : Cfg} {m : Mp} {H : Led} {sc : Scope} {s : Shared}

theorem C_make {name qual : Str} {params : Arguments} {body : List Stmt} {scope : Scope} {dV kV doc pm cdv ct : Value} {fI C : Addr} {rest : List Value} {binds : Addr → List (Str × Value)} {k : Nat} {R : Result → Shared → Prop}
    (fc : Fn c sc) (room : Room c (k + 2)) (I : Inv c m H s) (hm : makesIn (kk c.w.params) C = true) (hi : findIn (kk c.w.params) (.ref C) "__init__" = some (some (.ref fI))) (hf : typeIn (kk c.w.params) (.ref fI) = some (.type "function"))
    (ho : (kk c.w.params).lookup fI = some ⟨.type "function", none, .func (fnOf name qual params body scope dV kV doc pm none cdv ct), #[]⟩) (hcd : codeIn (kk c.w.params) cdv qual = true)
    (hb : ∀ x, ∀ s : Shared, (kk c.w.params).In s.heap → BindsTo s (fnOf name qual params body scope dV kV doc pm none cdv ct) ⟨.ref x :: rest, []⟩ (binds x)) (hloc : ∀ x, ∀ y ∈ binds x, scope.names.lookup y.1 = some .local)
    (hcell : ∀ x ∈ scope.names, x.2 ≠ .cell) (hco : scope.isCoroutine = false) (hgen : scope.isGenerator = false) (hk : scope.kind = .function)
    (h : ∀ x dx, (∀ p ∈ H, p.1 ≠ x) → (∀ p ∈ H, p.1 ≠ dx) → x ≠ dx → ∀ c' : Cfg, c'.prog = c.prog → c'.w = c.w → c'.h₀ = c.h₀ → (Hn c → Hn c') →
      (∃ A : Around, A.handled = c.A.handled ∧ c'.A = A.deeper c'.env ∧ c'.E = fun e s' => wpAny (model c.prog c.w) (A.deeper c'.env) (leaving c'.env e) (fun _ s'' => R (.error e) s'') (fun e' s'' => R (.error e') s'') s') →
      Fn c' scope → Room c' k → W c' (execs body c'.env) (binds x).reverse ((dx, emptyDict) :: (x, instObj C dx) :: H) (fun fl _ H' => retv fl = .none ∧ ∀ s', Inv c m H' s' → R (.ok (.ret (.ref x))) s')) :
    codeAny (model c.prog c.w) c.A (.call (.ref C) ⟨rest, []⟩) R s := by
  refine make_K I.F I.N (fc.ok.X.keeps I.F.keep) hm hi hf fun x dx h' F' N' l1 l2 => ?_
  have I' : Inv c m ((dx, emptyDict) :: (x, instObj C dx) :: H) { s with heap := h' } := by
    refine ⟨I.gens, I.drawn, I.os, ⟨_, F', I.kn⟩, fun p hp => N' p (by
      rcases List.mem_cons.mp hp with rfl | hp
      · exact .tail _ (.head _)
      · rcases List.mem_cons.mp hp with rfl | hp
        · exact .head _
        · exact .tail _ (.tail _ hp)), fun p hp q hq => ?_⟩
    have lq := l1 q (List.mem_append_right _ hq)
    rcases List.mem_cons.mp hp with rfl | hp
    · exact Nat.ne_of_gt lq
    · rcases List.mem_cons.mp hp with rfl | hp
      · exact Nat.ne_of_gt (Nat.lt_trans lq l2)
      · exact I.ap p hp q hq
  refine C_call fc I' ho hcd (A := c.A.under (.builtin "type.__call__" ⟨.ref C :: rest, []⟩)) (k := k) rfl ?_ ?_ (hb x) (hloc x) hcell hco hgen hk fun c' h1 h2 h3 h4 h5 h6 h7 h8 => ?_
  · show c.A.depth + _ + 1 + k < _
    rw [wt_tc]; have := room.1; omega
  · show c.A.units + _ + 3 + 4 * k < _
    rw [un_tc]; have := room.2; omega
  · refine W_mono (h x dx (fun p hp => Nat.ne_of_lt (Nat.lt_trans (l1 p (List.mem_append_left _ hp)) l2)) (fun p hp => Nat.ne_of_lt (l1 p (List.mem_append_left _ hp))) (Nat.ne_of_gt l2) c' h1 h2 h3 (fun e => by show c'.A.handled = none; rw [h4]; exact e) ⟨c.A.under (.builtin "type.__call__" ⟨.ref C :: rest, []⟩), rfl, h4, h5⟩ h6 h7) fun fl m' H' p s' J => ?_
    exact ⟨p.1, p.2 s' J⟩
theorem W_make {name qual : Str} {params : Arguments} {body : List Stmt} {scope : Scope} {dV kV doc pm cdv ct : Value} {fI C : Addr} {rest : List Value} {binds : Addr → List (Str × Value)} {k : Nat} {P : Value → Mp → Led → Prop}
    (fc : Fn c sc) (room : Room c (k + 2)) (hm : makesIn (kk c.w.params) C = true) (hi : findIn (kk c.w.params) (.ref C) "__init__" = some (some (.ref fI))) (hf : typeIn (kk c.w.params) (.ref fI) = some (.type "function"))
    (ho : (kk c.w.params).lookup fI = some ⟨.type "function", none, .func (fnOf name qual params body scope dV kV doc pm none cdv ct), #[]⟩) (hcd : codeIn (kk c.w.params) cdv qual = true)
    (hb : ∀ x, ∀ s : Shared, (kk c.w.params).In s.heap → BindsTo s (fnOf name qual params body scope dV kV doc pm none cdv ct) ⟨.ref x :: rest, []⟩ (binds x)) (hloc : ∀ x, ∀ y ∈ binds x, scope.names.lookup y.1 = some .local)
    (hcell : ∀ x ∈ scope.names, x.2 ≠ .cell) (hco : scope.isCoroutine = false) (hgen : scope.isGenerator = false) (hk : scope.kind = .function)
    (h : ∀ x dx, (∀ p ∈ H, p.1 ≠ x) → (∀ p ∈ H, p.1 ≠ dx) → x ≠ dx → ∀ c' : Cfg, c'.w = c.w → (Hn c → Hn c') → Fn c' scope → Room c' k → W c' (execs body c'.env) (binds x).reverse ((dx, emptyDict) :: (x, instObj C dx) :: H) (fun fl _ H' => retv fl = .none ∧ P (.ref x) m H')) :
    W c (call (.ref C) rest) m H P := fun s I => by
  refine wpAny_call (C_make fc room I hm hi hf ho hcd hb hloc hcell hco hgen hk fun x dx f1 f2 f3 c' _ h2 _ hn _ h6 h7 => ?_)
  exact W_mono (h x dx f1 f2 f3 c' h2 hn h6 h7) fun fl m' H' p => ⟨p.1, fun s' J => ⟨m, H', J, p.2⟩⟩
end

-- MFns
section
variable {c : Cfg} {m : Mp} {H : Led} {sc : Scope} {k : Nat} {P : Value → Mp → Led → Prop} {pos : List Value}
noncomputable abbrev fd_PageError_init : FuncData := fnOf (Str.ofString "__init__") (Str.ofString "PageError.__init__") (parOf (mAt 4 0)) (bodOf (mAt 4 0)) (scoOf (mAt 4 0)) (.ref 33) (.none) (.none) (.str (Str.ofString "gluepage.errors") 211) none (.ref 39) (.none)
theorem fn_PageError_init (f : Fn c sc) (r : Room c (k + 1)) (binds : List (Str × Value)) (hb : ∀ s : Shared, (kk c.w.params).In s.heap → BindsTo s fd_PageError_init ⟨pos, []⟩ binds)
    (hl : (binds.all fun x => decide ((scoOf (mAt 4 0)).names.lookup x.1 = some .local)) = true)
    (h : ∀ c' : Cfg, c'.w = c.w → Fn c' (scoOf (mAt 4 0)) → Room c' k → (Hn c → Hn c') → W c' (execs (bodOf (mAt 4 0)) c'.env) binds.reverse H (fun fl _ H' => P (retv fl) m H')) : W c (call (.ref 40) pos) m H P :=
  W_call f r (by kernel_rfl) (by kernel_rfl) hb (locs hl) (by decide +kernel) (by kernel_rfl) (by kernel_rfl) (by kernel_rfl) h
noncomputable abbrev fd_is_whole : FuncData := fnOf (Str.ofString "is_whole") (Str.ofString "is_whole") (parOf (stAt 14)) (bodOf (stAt 14)) (scoOf (stAt 14)) (.none) (.none) (.none) (.str (Str.ofString "gluepage.scaled") 289) none (.ref 92) (.none)
theorem fn_is_whole (f : Fn c sc) (r : Room c (k + 1)) (binds : List (Str × Value)) (hb : ∀ s : Shared, (kk c.w.params).In s.heap → BindsTo s fd_is_whole ⟨pos, []⟩ binds)
    (hl : (binds.all fun x => decide ((scoOf (stAt 14)).names.lookup x.1 = some .local)) = true)
    (h : ∀ c' : Cfg, c'.w = c.w → Fn c' (scoOf (stAt 14)) → Room c' k → (Hn c → Hn c') → W c' (execs (bodOf (stAt 14)) c'.env) binds.reverse H (fun fl _ H' => P (retv fl) m H')) : W c (call (.ref 93) pos) m H P :=
  W_call f r (by kernel_rfl) (by kernel_rfl) hb (locs hl) (by decide +kernel) (by kernel_rfl) (by kernel_rfl) (by kernel_rfl) h
noncomputable abbrev fd_check_whole : FuncData := fnOf (Str.ofString "check_whole") (Str.ofString "check_whole") (parOf (stAt 15)) (bodOf (stAt 15)) (scoOf (stAt 15)) (.none) (.none) (.none) (.str (Str.ofString "gluepage.scaled") 289) none (.ref 99) (.none)
theorem fn_check_whole (f : Fn c sc) (r : Room c (k + 1)) (binds : List (Str × Value)) (hb : ∀ s : Shared, (kk c.w.params).In s.heap → BindsTo s fd_check_whole ⟨pos, []⟩ binds)
    (hl : (binds.all fun x => decide ((scoOf (stAt 15)).names.lookup x.1 = some .local)) = true)
    (h : ∀ c' : Cfg, c'.w = c.w → Fn c' (scoOf (stAt 15)) → Room c' k → (Hn c → Hn c') → W c' (execs (bodOf (stAt 15)) c'.env) binds.reverse H (fun fl _ H' => P (retv fl) m H')) : W c (call (.ref 100) pos) m H P :=
  W_call f r (by kernel_rfl) (by kernel_rfl) hb (locs hl) (by decide +kernel) (by kernel_rfl) (by kernel_rfl) (by kernel_rfl) h
noncomputable abbrev fd_check_number : FuncData := fnOf (Str.ofString "check_number") (Str.ofString "check_number") (parOf (stAt 16)) (bodOf (stAt 16)) (scoOf (stAt 16)) (.none) (.none) (.none) (.str (Str.ofString "gluepage.scaled") 289) none (.ref 106) (.none)
theorem fn_check_number (f : Fn c sc) (r : Room c (k + 1)) (binds : List (Str × Value)) (hb : ∀ s : Shared, (kk c.w.params).In s.heap → BindsTo s fd_check_number ⟨pos, []⟩ binds)
    (hl : (binds.all fun x => decide ((scoOf (stAt 16)).names.lookup x.1 = some .local)) = true)
    (h : ∀ c' : Cfg, c'.w = c.w → Fn c' (scoOf (stAt 16)) → Room c' k → (Hn c → Hn c') → W c' (execs (bodOf (stAt 16)) c'.env) binds.reverse H (fun fl _ H' => P (retv fl) m H')) : W c (call (.ref 107) pos) m H P :=
  W_call f r (by kernel_rfl) (by kernel_rfl) hb (locs hl) (by decide +kernel) (by kernel_rfl) (by kernel_rfl) (by kernel_rfl) h
noncomputable abbrev fd_check_dimen : FuncData := fnOf (Str.ofString "check_dimen") (Str.ofString "check_dimen") (parOf (stAt 17)) (bodOf (stAt 17)) (scoOf (stAt 17)) (.none) (.none) (.none) (.str (Str.ofString "gluepage.scaled") 289) none (.ref 113) (.none)
theorem fn_check_dimen (f : Fn c sc) (r : Room c (k + 1)) (binds : List (Str × Value)) (hb : ∀ s : Shared, (kk c.w.params).In s.heap → BindsTo s fd_check_dimen ⟨pos, []⟩ binds)
    (hl : (binds.all fun x => decide ((scoOf (stAt 17)).names.lookup x.1 = some .local)) = true)
    (h : ∀ c' : Cfg, c'.w = c.w → Fn c' (scoOf (stAt 17)) → Room c' k → (Hn c → Hn c') → W c' (execs (bodOf (stAt 17)) c'.env) binds.reverse H (fun fl _ H' => P (retv fl) m H')) : W c (call (.ref 114) pos) m H P :=
  W_call f r (by kernel_rfl) (by kernel_rfl) hb (locs hl) (by decide +kernel) (by kernel_rfl) (by kernel_rfl) (by kernel_rfl) h
noncomputable abbrev fd_rounded : FuncData := fnOf (Str.ofString "rounded") (Str.ofString "rounded") (parOf (stAt 18)) (bodOf (stAt 18)) (scoOf (stAt 18)) (.none) (.none) (.none) (.str (Str.ofString "gluepage.scaled") 289) none (.ref 120) (.none)
theorem fn_rounded (f : Fn c sc) (r : Room c (k + 1)) (binds : List (Str × Value)) (hb : ∀ s : Shared, (kk c.w.params).In s.heap → BindsTo s fd_rounded ⟨pos, []⟩ binds)
    (hl : (binds.all fun x => decide ((scoOf (stAt 18)).names.lookup x.1 = some .local)) = true)
    (h : ∀ c' : Cfg, c'.w = c.w → Fn c' (scoOf (stAt 18)) → Room c' k → (Hn c → Hn c') → W c' (execs (bodOf (stAt 18)) c'.env) binds.reverse H (fun fl _ H' => P (retv fl) m H')) : W c (call (.ref 121) pos) m H P :=
  W_call f r (by kernel_rfl) (by kernel_rfl) hb (locs hl) (by decide +kernel) (by kernel_rfl) (by kernel_rfl) (by kernel_rfl) h
noncomputable abbrev fd_badness : FuncData := fnOf (Str.ofString "badness") (Str.ofString "badness") (parOf (stAt 25)) (bodOf (stAt 25)) (scoOf (stAt 25)) (.none) (.none) (.none) (.str (Str.ofString "gluepage.scaled") 289) none (.ref 155) (.none)
theorem fn_badness (f : Fn c sc) (r : Room c (k + 1)) (binds : List (Str × Value)) (hb : ∀ s : Shared, (kk c.w.params).In s.heap → BindsTo s fd_badness ⟨pos, []⟩ binds)
    (hl : (binds.all fun x => decide ((scoOf (stAt 25)).names.lookup x.1 = some .local)) = true)
    (h : ∀ c' : Cfg, c'.w = c.w → Fn c' (scoOf (stAt 25)) → Room c' k → (Hn c → Hn c') → W c' (execs (bodOf (stAt 25)) c'.env) binds.reverse H (fun fl _ H' => P (retv fl) m H')) : W c (call (.ref 156) pos) m H P :=
  W_call f r (by kernel_rfl) (by kernel_rfl) hb (locs hl) (by decide +kernel) (by kernel_rfl) (by kernel_rfl) (by kernel_rfl) h
noncomputable abbrev fd_Glue_init : FuncData := fnOf (Str.ofString "__init__") (Str.ofString "Glue.__init__") (parOf (mAt 28 0)) (bodOf (mAt 28 0)) (scoOf (mAt 28 0)) (.ref 178) (.none) (.none) (.str (Str.ofString "gluepage.scaled") 289) none (.ref 184) (.none)
theorem fn_Glue_init (f : Fn c sc) (r : Room c (k + 1)) (binds : List (Str × Value)) (hb : ∀ s : Shared, (kk c.w.params).In s.heap → BindsTo s fd_Glue_init ⟨pos, []⟩ binds)
    (hl : (binds.all fun x => decide ((scoOf (mAt 28 0)).names.lookup x.1 = some .local)) = true)
    (h : ∀ c' : Cfg, c'.w = c.w → Fn c' (scoOf (mAt 28 0)) → Room c' k → (Hn c → Hn c') → W c' (execs (bodOf (mAt 28 0)) c'.env) binds.reverse H (fun fl _ H' => P (retv fl) m H')) : W c (call (.ref 185) pos) m H P :=
  W_call f r (by kernel_rfl) (by kernel_rfl) hb (locs hl) (by decide +kernel) (by kernel_rfl) (by kernel_rfl) (by kernel_rfl) h
theorem mk_Glue (f : Fn c sc) (r : Room c (k + 2)) (binds : Addr → List (Str × Value)) (hb : ∀ x, ∀ s : Shared, (kk c.w.params).In s.heap → BindsTo s fd_Glue_init ⟨.ref x :: pos, []⟩ (binds x))
    (hl : ∀ x, ((binds x).all fun x => decide ((scoOf (mAt 28 0)).names.lookup x.1 = some .local)) = true)
    (h : ∀ x dx, (∀ p ∈ H, p.1 ≠ x) → (∀ p ∈ H, p.1 ≠ dx) → x ≠ dx → ∀ c' : Cfg, c'.w = c.w → (Hn c → Hn c') → Fn c' (scoOf (mAt 28 0)) → Room c' k → W c' (execs (bodOf (mAt 28 0)) c'.env) (binds x).reverse ((dx, emptyDict) :: (x, instObj 238 dx) :: H) (fun fl _ H' => retv fl = .none ∧ P (.ref x) m H')) : W c (call (.ref 238) pos) m H P :=
  W_make (fI := 185) f r (by kernel_rfl) (by kernel_rfl) (by kernel_rfl) (by kernel_rfl) (by kernel_rfl) hb (fun x => locs (hl x)) (by decide +kernel) (by kernel_rfl) (by kernel_rfl) (by kernel_rfl) h
noncomputable abbrev fd_Glue_parts : FuncData := fnOf (Str.ofString "parts") (Str.ofString "Glue.parts") (parOf (mAt 28 1)) (bodOf (mAt 28 1)) (scoOf (mAt 28 1)) (.none) (.none) (.none) (.str (Str.ofString "gluepage.scaled") 289) none (.ref 191) (.none)
theorem fn_Glue_parts (f : Fn c sc) (r : Room c (k + 1)) (binds : List (Str × Value)) (hb : ∀ s : Shared, (kk c.w.params).In s.heap → BindsTo s fd_Glue_parts ⟨pos, []⟩ binds)
    (hl : (binds.all fun x => decide ((scoOf (mAt 28 1)).names.lookup x.1 = some .local)) = true)
    (h : ∀ c' : Cfg, c'.w = c.w → Fn c' (scoOf (mAt 28 1)) → Room c' k → (Hn c → Hn c') → W c' (execs (bodOf (mAt 28 1)) c'.env) binds.reverse H (fun fl _ H' => P (retv fl) m H')) : W c (call (.ref 192) pos) m H P :=
  W_call f r (by kernel_rfl) (by kernel_rfl) hb (locs hl) (by decide +kernel) (by kernel_rfl) (by kernel_rfl) (by kernel_rfl) h
noncomputable abbrev fd_top_order : FuncData := fnOf (Str.ofString "top_order") (Str.ofString "top_order") (parOf (stAt 29)) (bodOf (stAt 29)) (scoOf (stAt 29)) (.none) (.none) (.none) (.str (Str.ofString "gluepage.scaled") 289) none (.ref 248) (.none)
theorem fn_top_order (f : Fn c sc) (r : Room c (k + 1)) (binds : List (Str × Value)) (hb : ∀ s : Shared, (kk c.w.params).In s.heap → BindsTo s fd_top_order ⟨pos, []⟩ binds)
    (hl : (binds.all fun x => decide ((scoOf (stAt 29)).names.lookup x.1 = some .local)) = true)
    (h : ∀ c' : Cfg, c'.w = c.w → Fn c' (scoOf (stAt 29)) → Room c' k → (Hn c → Hn c') → W c' (execs (bodOf (stAt 29)) c'.env) binds.reverse H (fun fl _ H' => P (retv fl) m H')) : W c (call (.ref 249) pos) m H P :=
  W_call f r (by kernel_rfl) (by kernel_rfl) hb (locs hl) (by decide +kernel) (by kernel_rfl) (by kernel_rfl) (by kernel_rfl) h
noncomputable abbrev fd_Totals_init : FuncData := fnOf (Str.ofString "__init__") (Str.ofString "Totals.__init__") (parOf (mAt 30 0)) (bodOf (mAt 30 0)) (scoOf (mAt 30 0)) (.none) (.none) (.none) (.str (Str.ofString "gluepage.scaled") 289) none (.ref 262) (.none)
theorem fn_Totals_init (f : Fn c sc) (r : Room c (k + 1)) (binds : List (Str × Value)) (hb : ∀ s : Shared, (kk c.w.params).In s.heap → BindsTo s fd_Totals_init ⟨pos, []⟩ binds)
    (hl : (binds.all fun x => decide ((scoOf (mAt 30 0)).names.lookup x.1 = some .local)) = true)
    (h : ∀ c' : Cfg, c'.w = c.w → Fn c' (scoOf (mAt 30 0)) → Room c' k → (Hn c → Hn c') → W c' (execs (bodOf (mAt 30 0)) c'.env) binds.reverse H (fun fl _ H' => P (retv fl) m H')) : W c (call (.ref 263) pos) m H P :=
  W_call f r (by kernel_rfl) (by kernel_rfl) hb (locs hl) (by decide +kernel) (by kernel_rfl) (by kernel_rfl) (by kernel_rfl) h
theorem mk_Totals (f : Fn c sc) (r : Room c (k + 2)) (binds : Addr → List (Str × Value)) (hb : ∀ x, ∀ s : Shared, (kk c.w.params).In s.heap → BindsTo s fd_Totals_init ⟨.ref x :: pos, []⟩ (binds x))
    (hl : ∀ x, ((binds x).all fun x => decide ((scoOf (mAt 30 0)).names.lookup x.1 = some .local)) = true)
    (h : ∀ x dx, (∀ p ∈ H, p.1 ≠ x) → (∀ p ∈ H, p.1 ≠ dx) → x ≠ dx → ∀ c' : Cfg, c'.w = c.w → (Hn c → Hn c') → Fn c' (scoOf (mAt 30 0)) → Room c' k → W c' (execs (bodOf (mAt 30 0)) c'.env) (binds x).reverse ((dx, emptyDict) :: (x, instObj 301 dx) :: H) (fun fl _ H' => retv fl = .none ∧ P (.ref x) m H')) : W c (call (.ref 301) pos) m H P :=
  W_make (fI := 263) f r (by kernel_rfl) (by kernel_rfl) (by kernel_rfl) (by kernel_rfl) (by kernel_rfl) hb (fun x => locs (hl x)) (by decide +kernel) (by kernel_rfl) (by kernel_rfl) (by kernel_rfl) h
noncomputable abbrev fd_Totals_add : FuncData := fnOf (Str.ofString "add") (Str.ofString "Totals.add") (parOf (mAt 30 1)) (bodOf (mAt 30 1)) (scoOf (mAt 30 1)) (.none) (.none) (.none) (.str (Str.ofString "gluepage.scaled") 289) none (.ref 269) (.none)
theorem fn_Totals_add (f : Fn c sc) (r : Room c (k + 1)) (binds : List (Str × Value)) (hb : ∀ s : Shared, (kk c.w.params).In s.heap → BindsTo s fd_Totals_add ⟨pos, []⟩ binds)
    (hl : (binds.all fun x => decide ((scoOf (mAt 30 1)).names.lookup x.1 = some .local)) = true)
    (h : ∀ c' : Cfg, c'.w = c.w → Fn c' (scoOf (mAt 30 1)) → Room c' k → (Hn c → Hn c') → W c' (execs (bodOf (mAt 30 1)) c'.env) binds.reverse H (fun fl _ H' => P (retv fl) m H')) : W c (call (.ref 270) pos) m H P :=
  W_call f r (by kernel_rfl) (by kernel_rfl) hb (locs hl) (by decide +kernel) (by kernel_rfl) (by kernel_rfl) (by kernel_rfl) h
noncomputable abbrev fd_Totals_widen : FuncData := fnOf (Str.ofString "widen") (Str.ofString "Totals.widen") (parOf (mAt 30 2)) (bodOf (mAt 30 2)) (scoOf (mAt 30 2)) (.none) (.none) (.none) (.str (Str.ofString "gluepage.scaled") 289) none (.ref 276) (.none)
theorem fn_Totals_widen (f : Fn c sc) (r : Room c (k + 1)) (binds : List (Str × Value)) (hb : ∀ s : Shared, (kk c.w.params).In s.heap → BindsTo s fd_Totals_widen ⟨pos, []⟩ binds)
    (hl : (binds.all fun x => decide ((scoOf (mAt 30 2)).names.lookup x.1 = some .local)) = true)
    (h : ∀ c' : Cfg, c'.w = c.w → Fn c' (scoOf (mAt 30 2)) → Room c' k → (Hn c → Hn c') → W c' (execs (bodOf (mAt 30 2)) c'.env) binds.reverse H (fun fl _ H' => P (retv fl) m H')) : W c (call (.ref 277) pos) m H P :=
  W_call f r (by kernel_rfl) (by kernel_rfl) hb (locs hl) (by decide +kernel) (by kernel_rfl) (by kernel_rfl) (by kernel_rfl) h
noncomputable abbrev fd_Totals_stretch_top : FuncData := fnOf (Str.ofString "stretch_top") (Str.ofString "Totals.stretch_top") (parOf (mAt 30 3)) (bodOf (mAt 30 3)) (scoOf (mAt 30 3)) (.none) (.none) (.none) (.str (Str.ofString "gluepage.scaled") 289) none (.ref 283) (.none)
theorem fn_Totals_stretch_top (f : Fn c sc) (r : Room c (k + 1)) (binds : List (Str × Value)) (hb : ∀ s : Shared, (kk c.w.params).In s.heap → BindsTo s fd_Totals_stretch_top ⟨pos, []⟩ binds)
    (hl : (binds.all fun x => decide ((scoOf (mAt 30 3)).names.lookup x.1 = some .local)) = true)
    (h : ∀ c' : Cfg, c'.w = c.w → Fn c' (scoOf (mAt 30 3)) → Room c' k → (Hn c → Hn c') → W c' (execs (bodOf (mAt 30 3)) c'.env) binds.reverse H (fun fl _ H' => P (retv fl) m H')) : W c (call (.ref 284) pos) m H P :=
  W_call f r (by kernel_rfl) (by kernel_rfl) hb (locs hl) (by decide +kernel) (by kernel_rfl) (by kernel_rfl) (by kernel_rfl) h
noncomputable abbrev fd_Totals_shrink_top : FuncData := fnOf (Str.ofString "shrink_top") (Str.ofString "Totals.shrink_top") (parOf (mAt 30 4)) (bodOf (mAt 30 4)) (scoOf (mAt 30 4)) (.none) (.none) (.none) (.str (Str.ofString "gluepage.scaled") 289) none (.ref 290) (.none)
theorem fn_Totals_shrink_top (f : Fn c sc) (r : Room c (k + 1)) (binds : List (Str × Value)) (hb : ∀ s : Shared, (kk c.w.params).In s.heap → BindsTo s fd_Totals_shrink_top ⟨pos, []⟩ binds)
    (hl : (binds.all fun x => decide ((scoOf (mAt 30 4)).names.lookup x.1 = some .local)) = true)
    (h : ∀ c' : Cfg, c'.w = c.w → Fn c' (scoOf (mAt 30 4)) → Room c' k → (Hn c → Hn c') → W c' (execs (bodOf (mAt 30 4)) c'.env) binds.reverse H (fun fl _ H' => P (retv fl) m H')) : W c (call (.ref 291) pos) m H P :=
  W_call f r (by kernel_rfl) (by kernel_rfl) hb (locs hl) (by decide +kernel) (by kernel_rfl) (by kernel_rfl) (by kernel_rfl) h
noncomputable abbrev fd_Box_init : FuncData := fnOf (Str.ofString "__init__") (Str.ofString "Box.__init__") (parOf (mAt 39 0)) (bodOf (mAt 39 0)) (scoOf (mAt 39 0)) (.none) (.none) (.none) (.str (Str.ofString "gluepage.nodes") 597) none (.ref 342) (.none)
theorem fn_Box_init (f : Fn c sc) (r : Room c (k + 1)) (binds : List (Str × Value)) (hb : ∀ s : Shared, (kk c.w.params).In s.heap → BindsTo s fd_Box_init ⟨pos, []⟩ binds)
    (hl : (binds.all fun x => decide ((scoOf (mAt 39 0)).names.lookup x.1 = some .local)) = true)
    (h : ∀ c' : Cfg, c'.w = c.w → Fn c' (scoOf (mAt 39 0)) → Room c' k → (Hn c → Hn c') → W c' (execs (bodOf (mAt 39 0)) c'.env) binds.reverse H (fun fl _ H' => P (retv fl) m H')) : W c (call (.ref 343) pos) m H P :=
  W_call f r (by kernel_rfl) (by kernel_rfl) hb (locs hl) (by decide +kernel) (by kernel_rfl) (by kernel_rfl) (by kernel_rfl) h
theorem mk_Box (f : Fn c sc) (r : Room c (k + 2)) (binds : Addr → List (Str × Value)) (hb : ∀ x, ∀ s : Shared, (kk c.w.params).In s.heap → BindsTo s fd_Box_init ⟨.ref x :: pos, []⟩ (binds x))
    (hl : ∀ x, ((binds x).all fun x => decide ((scoOf (mAt 39 0)).names.lookup x.1 = some .local)) = true)
    (h : ∀ x dx, (∀ p ∈ H, p.1 ≠ x) → (∀ p ∈ H, p.1 ≠ dx) → x ≠ dx → ∀ c' : Cfg, c'.w = c.w → (Hn c → Hn c') → Fn c' (scoOf (mAt 39 0)) → Room c' k → W c' (execs (bodOf (mAt 39 0)) c'.env) (binds x).reverse ((dx, emptyDict) :: (x, instObj 346 dx) :: H) (fun fl _ H' => retv fl = .none ∧ P (.ref x) m H')) : W c (call (.ref 346) pos) m H P :=
  W_make (fI := 343) f r (by kernel_rfl) (by kernel_rfl) (by kernel_rfl) (by kernel_rfl) (by kernel_rfl) hb (fun x => locs (hl x)) (by decide +kernel) (by kernel_rfl) (by kernel_rfl) (by kernel_rfl) h
noncomputable abbrev fd_Rule_init : FuncData := fnOf (Str.ofString "__init__") (Str.ofString "Rule.__init__") (parOf (mAt 40 1)) (bodOf (mAt 40 1)) (scoOf (mAt 40 1)) (.none) (.none) (.none) (.str (Str.ofString "gluepage.nodes") 597) none (.ref 363) (.none)
theorem fn_Rule_init (f : Fn c sc) (r : Room c (k + 1)) (binds : List (Str × Value)) (hb : ∀ s : Shared, (kk c.w.params).In s.heap → BindsTo s fd_Rule_init ⟨pos, []⟩ binds)
    (hl : (binds.all fun x => decide ((scoOf (mAt 40 1)).names.lookup x.1 = some .local)) = true)
    (h : ∀ c' : Cfg, c'.w = c.w → Fn c' (scoOf (mAt 40 1)) → Room c' k → (Hn c → Hn c') → W c' (execs (bodOf (mAt 40 1)) c'.env) binds.reverse H (fun fl _ H' => P (retv fl) m H')) : W c (call (.ref 364) pos) m H P :=
  W_call f r (by kernel_rfl) (by kernel_rfl) hb (locs hl) (by decide +kernel) (by kernel_rfl) (by kernel_rfl) (by kernel_rfl) h
theorem mk_Rule (f : Fn c sc) (r : Room c (k + 2)) (binds : Addr → List (Str × Value)) (hb : ∀ x, ∀ s : Shared, (kk c.w.params).In s.heap → BindsTo s fd_Rule_init ⟨.ref x :: pos, []⟩ (binds x))
    (hl : ∀ x, ((binds x).all fun x => decide ((scoOf (mAt 40 1)).names.lookup x.1 = some .local)) = true)
    (h : ∀ x dx, (∀ p ∈ H, p.1 ≠ x) → (∀ p ∈ H, p.1 ≠ dx) → x ≠ dx → ∀ c' : Cfg, c'.w = c.w → (Hn c → Hn c') → Fn c' (scoOf (mAt 40 1)) → Room c' k → W c' (execs (bodOf (mAt 40 1)) c'.env) (binds x).reverse ((dx, emptyDict) :: (x, instObj 367 dx) :: H) (fun fl _ H' => retv fl = .none ∧ P (.ref x) m H')) : W c (call (.ref 367) pos) m H P :=
  W_make (fI := 364) f r (by kernel_rfl) (by kernel_rfl) (by kernel_rfl) (by kernel_rfl) (by kernel_rfl) hb (fun x => locs (hl x)) (by decide +kernel) (by kernel_rfl) (by kernel_rfl) (by kernel_rfl) h
noncomputable abbrev fd_Kern_init : FuncData := fnOf (Str.ofString "__init__") (Str.ofString "Kern.__init__") (parOf (mAt 41 1)) (bodOf (mAt 41 1)) (scoOf (mAt 41 1)) (.none) (.none) (.none) (.str (Str.ofString "gluepage.nodes") 597) none (.ref 384) (.none)
theorem fn_Kern_init (f : Fn c sc) (r : Room c (k + 1)) (binds : List (Str × Value)) (hb : ∀ s : Shared, (kk c.w.params).In s.heap → BindsTo s fd_Kern_init ⟨pos, []⟩ binds)
    (hl : (binds.all fun x => decide ((scoOf (mAt 41 1)).names.lookup x.1 = some .local)) = true)
    (h : ∀ c' : Cfg, c'.w = c.w → Fn c' (scoOf (mAt 41 1)) → Room c' k → (Hn c → Hn c') → W c' (execs (bodOf (mAt 41 1)) c'.env) binds.reverse H (fun fl _ H' => P (retv fl) m H')) : W c (call (.ref 385) pos) m H P :=
  W_call f r (by kernel_rfl) (by kernel_rfl) hb (locs hl) (by decide +kernel) (by kernel_rfl) (by kernel_rfl) (by kernel_rfl) h
theorem mk_Kern (f : Fn c sc) (r : Room c (k + 2)) (binds : Addr → List (Str × Value)) (hb : ∀ x, ∀ s : Shared, (kk c.w.params).In s.heap → BindsTo s fd_Kern_init ⟨.ref x :: pos, []⟩ (binds x))
    (hl : ∀ x, ((binds x).all fun x => decide ((scoOf (mAt 41 1)).names.lookup x.1 = some .local)) = true)
    (h : ∀ x dx, (∀ p ∈ H, p.1 ≠ x) → (∀ p ∈ H, p.1 ≠ dx) → x ≠ dx → ∀ c' : Cfg, c'.w = c.w → (Hn c → Hn c') → Fn c' (scoOf (mAt 41 1)) → Room c' k → W c' (execs (bodOf (mAt 41 1)) c'.env) (binds x).reverse ((dx, emptyDict) :: (x, instObj 388 dx) :: H) (fun fl _ H' => retv fl = .none ∧ P (.ref x) m H')) : W c (call (.ref 388) pos) m H P :=
  W_make (fI := 385) f r (by kernel_rfl) (by kernel_rfl) (by kernel_rfl) (by kernel_rfl) (by kernel_rfl) hb (fun x => locs (hl x)) (by decide +kernel) (by kernel_rfl) (by kernel_rfl) (by kernel_rfl) h
noncomputable abbrev fd_Skip_init : FuncData := fnOf (Str.ofString "__init__") (Str.ofString "Skip.__init__") (parOf (mAt 42 1)) (bodOf (mAt 42 1)) (scoOf (mAt 42 1)) (.ref 400) (.none) (.none) (.str (Str.ofString "gluepage.nodes") 597) none (.ref 406) (.none)
theorem fn_Skip_init (f : Fn c sc) (r : Room c (k + 1)) (binds : List (Str × Value)) (hb : ∀ s : Shared, (kk c.w.params).In s.heap → BindsTo s fd_Skip_init ⟨pos, []⟩ binds)
    (hl : (binds.all fun x => decide ((scoOf (mAt 42 1)).names.lookup x.1 = some .local)) = true)
    (h : ∀ c' : Cfg, c'.w = c.w → Fn c' (scoOf (mAt 42 1)) → Room c' k → (Hn c → Hn c') → W c' (execs (bodOf (mAt 42 1)) c'.env) binds.reverse H (fun fl _ H' => P (retv fl) m H')) : W c (call (.ref 407) pos) m H P :=
  W_call f r (by kernel_rfl) (by kernel_rfl) hb (locs hl) (by decide +kernel) (by kernel_rfl) (by kernel_rfl) (by kernel_rfl) h
theorem mk_Skip (f : Fn c sc) (r : Room c (k + 2)) (binds : Addr → List (Str × Value)) (hb : ∀ x, ∀ s : Shared, (kk c.w.params).In s.heap → BindsTo s fd_Skip_init ⟨.ref x :: pos, []⟩ (binds x))
    (hl : ∀ x, ((binds x).all fun x => decide ((scoOf (mAt 42 1)).names.lookup x.1 = some .local)) = true)
    (h : ∀ x dx, (∀ p ∈ H, p.1 ≠ x) → (∀ p ∈ H, p.1 ≠ dx) → x ≠ dx → ∀ c' : Cfg, c'.w = c.w → (Hn c → Hn c') → Fn c' (scoOf (mAt 42 1)) → Room c' k → W c' (execs (bodOf (mAt 42 1)) c'.env) (binds x).reverse ((dx, emptyDict) :: (x, instObj 410 dx) :: H) (fun fl _ H' => retv fl = .none ∧ P (.ref x) m H')) : W c (call (.ref 410) pos) m H P :=
  W_make (fI := 407) f r (by kernel_rfl) (by kernel_rfl) (by kernel_rfl) (by kernel_rfl) (by kernel_rfl) hb (fun x => locs (hl x)) (by decide +kernel) (by kernel_rfl) (by kernel_rfl) (by kernel_rfl) h
noncomputable abbrev fd_Penalty_init : FuncData := fnOf (Str.ofString "__init__") (Str.ofString "Penalty.__init__") (parOf (mAt 43 1)) (bodOf (mAt 43 1)) (scoOf (mAt 43 1)) (.none) (.none) (.none) (.str (Str.ofString "gluepage.nodes") 597) none (.ref 427) (.none)
theorem fn_Penalty_init (f : Fn c sc) (r : Room c (k + 1)) (binds : List (Str × Value)) (hb : ∀ s : Shared, (kk c.w.params).In s.heap → BindsTo s fd_Penalty_init ⟨pos, []⟩ binds)
    (hl : (binds.all fun x => decide ((scoOf (mAt 43 1)).names.lookup x.1 = some .local)) = true)
    (h : ∀ c' : Cfg, c'.w = c.w → Fn c' (scoOf (mAt 43 1)) → Room c' k → (Hn c → Hn c') → W c' (execs (bodOf (mAt 43 1)) c'.env) binds.reverse H (fun fl _ H' => P (retv fl) m H')) : W c (call (.ref 428) pos) m H P :=
  W_call f r (by kernel_rfl) (by kernel_rfl) hb (locs hl) (by decide +kernel) (by kernel_rfl) (by kernel_rfl) (by kernel_rfl) h
theorem mk_Penalty (f : Fn c sc) (r : Room c (k + 2)) (binds : Addr → List (Str × Value)) (hb : ∀ x, ∀ s : Shared, (kk c.w.params).In s.heap → BindsTo s fd_Penalty_init ⟨.ref x :: pos, []⟩ (binds x))
    (hl : ∀ x, ((binds x).all fun x => decide ((scoOf (mAt 43 1)).names.lookup x.1 = some .local)) = true)
    (h : ∀ x dx, (∀ p ∈ H, p.1 ≠ x) → (∀ p ∈ H, p.1 ≠ dx) → x ≠ dx → ∀ c' : Cfg, c'.w = c.w → (Hn c → Hn c') → Fn c' (scoOf (mAt 43 1)) → Room c' k → W c' (execs (bodOf (mAt 43 1)) c'.env) (binds x).reverse ((dx, emptyDict) :: (x, instObj 431 dx) :: H) (fun fl _ H' => retv fl = .none ∧ P (.ref x) m H')) : W c (call (.ref 431) pos) m H P :=
  W_make (fI := 428) f r (by kernel_rfl) (by kernel_rfl) (by kernel_rfl) (by kernel_rfl) (by kernel_rfl) hb (fun x => locs (hl x)) (by decide +kernel) (by kernel_rfl) (by kernel_rfl) (by kernel_rfl) h
noncomputable abbrev fd_check_depth : FuncData := fnOf (Str.ofString "check_depth") (Str.ofString "check_depth") (parOf (stAt 44)) (bodOf (stAt 44)) (scoOf (stAt 44)) (.none) (.none) (.none) (.str (Str.ofString "gluepage.nodes") 597) none (.ref 441) (.none)
theorem fn_check_depth (f : Fn c sc) (r : Room c (k + 1)) (binds : List (Str × Value)) (hb : ∀ s : Shared, (kk c.w.params).In s.heap → BindsTo s fd_check_depth ⟨pos, []⟩ binds)
    (hl : (binds.all fun x => decide ((scoOf (stAt 44)).names.lookup x.1 = some .local)) = true)
    (h : ∀ c' : Cfg, c'.w = c.w → Fn c' (scoOf (stAt 44)) → Room c' k → (Hn c → Hn c') → W c' (execs (bodOf (stAt 44)) c'.env) binds.reverse H (fun fl _ H' => P (retv fl) m H')) : W c (call (.ref 442) pos) m H P :=
  W_call f r (by kernel_rfl) (by kernel_rfl) hb (locs hl) (by decide +kernel) (by kernel_rfl) (by kernel_rfl) (by kernel_rfl) h
noncomputable abbrev fd_described : FuncData := fnOf (Str.ofString "described") (Str.ofString "described") (parOf (stAt 47)) (bodOf (stAt 47)) (scoOf (stAt 47)) (.ref 455) (.none) (.none) (.str (Str.ofString "gluepage.nodes") 597) none (.ref 459) (.none)
theorem fn_described (f : Fn c sc) (r : Room c (k + 1)) (binds : List (Str × Value)) (hb : ∀ s : Shared, (kk c.w.params).In s.heap → BindsTo s fd_described ⟨pos, []⟩ binds)
    (hl : (binds.all fun x => decide ((scoOf (stAt 47)).names.lookup x.1 = some .local)) = true)
    (h : ∀ c' : Cfg, c'.w = c.w → Fn c' (scoOf (stAt 47)) → Room c' k → (Hn c → Hn c') → W c' (execs (bodOf (stAt 47)) c'.env) binds.reverse H (fun fl _ H' => P (retv fl) m H')) : W c (call (.ref 460) pos) m H P :=
  W_call f r (by kernel_rfl) (by kernel_rfl) hb (locs hl) (by decide +kernel) (by kernel_rfl) (by kernel_rfl) (by kernel_rfl) h
noncomputable abbrev fd_width_of : FuncData := fnOf (Str.ofString "width_of") (Str.ofString "width_of") (parOf (stAt 49)) (bodOf (stAt 49)) (scoOf (stAt 49)) (.none) (.none) (.none) (.str (Str.ofString "gluepage.nodes") 597) none (.ref 470) (.none)
theorem fn_width_of (f : Fn c sc) (r : Room c (k + 1)) (binds : List (Str × Value)) (hb : ∀ s : Shared, (kk c.w.params).In s.heap → BindsTo s fd_width_of ⟨pos, []⟩ binds)
    (hl : (binds.all fun x => decide ((scoOf (stAt 49)).names.lookup x.1 = some .local)) = true)
    (h : ∀ c' : Cfg, c'.w = c.w → Fn c' (scoOf (stAt 49)) → Room c' k → (Hn c → Hn c') → W c' (execs (bodOf (stAt 49)) c'.env) binds.reverse H (fun fl _ H' => P (retv fl) m H')) : W c (call (.ref 471) pos) m H P :=
  W_call f r (by kernel_rfl) (by kernel_rfl) hb (locs hl) (by decide +kernel) (by kernel_rfl) (by kernel_rfl) (by kernel_rfl) h
noncomputable abbrev fd_height_of : FuncData := fnOf (Str.ofString "height_of") (Str.ofString "height_of") (parOf (stAt 50)) (bodOf (stAt 50)) (scoOf (stAt 50)) (.none) (.none) (.none) (.str (Str.ofString "gluepage.nodes") 597) none (.ref 475) (.none)
theorem fn_height_of (f : Fn c sc) (r : Room c (k + 1)) (binds : List (Str × Value)) (hb : ∀ s : Shared, (kk c.w.params).In s.heap → BindsTo s fd_height_of ⟨pos, []⟩ binds)
    (hl : (binds.all fun x => decide ((scoOf (stAt 50)).names.lookup x.1 = some .local)) = true)
    (h : ∀ c' : Cfg, c'.w = c.w → Fn c' (scoOf (stAt 50)) → Room c' k → (Hn c → Hn c') → W c' (execs (bodOf (stAt 50)) c'.env) binds.reverse H (fun fl _ H' => P (retv fl) m H')) : W c (call (.ref 476) pos) m H P :=
  W_call f r (by kernel_rfl) (by kernel_rfl) hb (locs hl) (by decide +kernel) (by kernel_rfl) (by kernel_rfl) (by kernel_rfl) h
noncomputable abbrev fd_depth_of : FuncData := fnOf (Str.ofString "depth_of") (Str.ofString "depth_of") (parOf (stAt 51)) (bodOf (stAt 51)) (scoOf (stAt 51)) (.none) (.none) (.none) (.str (Str.ofString "gluepage.nodes") 597) none (.ref 480) (.none)
theorem fn_depth_of (f : Fn c sc) (r : Room c (k + 1)) (binds : List (Str × Value)) (hb : ∀ s : Shared, (kk c.w.params).In s.heap → BindsTo s fd_depth_of ⟨pos, []⟩ binds)
    (hl : (binds.all fun x => decide ((scoOf (stAt 51)).names.lookup x.1 = some .local)) = true)
    (h : ∀ c' : Cfg, c'.w = c.w → Fn c' (scoOf (stAt 51)) → Room c' k → (Hn c → Hn c') → W c' (execs (bodOf (stAt 51)) c'.env) binds.reverse H (fun fl _ H' => P (retv fl) m H')) : W c (call (.ref 481) pos) m H P :=
  W_call f r (by kernel_rfl) (by kernel_rfl) hb (locs hl) (by decide +kernel) (by kernel_rfl) (by kernel_rfl) (by kernel_rfl) h
noncomputable abbrev fd_append_box : FuncData := fnOf (Str.ofString "append_box") (Str.ofString "append_box") (parOf (stAt 55)) (bodOf (stAt 55)) (scoOf (stAt 55)) (.none) (.none) (.none) (.str (Str.ofString "gluepage.paragraph") 909) none (.ref 501) (.none)
theorem fn_append_box (f : Fn c sc) (r : Room c (k + 1)) (binds : List (Str × Value)) (hb : ∀ s : Shared, (kk c.w.params).In s.heap → BindsTo s fd_append_box ⟨pos, []⟩ binds)
    (hl : (binds.all fun x => decide ((scoOf (stAt 55)).names.lookup x.1 = some .local)) = true)
    (h : ∀ c' : Cfg, c'.w = c.w → Fn c' (scoOf (stAt 55)) → Room c' k → (Hn c → Hn c') → W c' (execs (bodOf (stAt 55)) c'.env) binds.reverse H (fun fl _ H' => P (retv fl) m H')) : W c (call (.ref 502) pos) m H P :=
  W_call f r (by kernel_rfl) (by kernel_rfl) hb (locs hl) (by decide +kernel) (by kernel_rfl) (by kernel_rfl) (by kernel_rfl) h
noncomputable abbrev fd_across : FuncData := fnOf (Str.ofString "across") (Str.ofString "across") (parOf (stAt 59)) (bodOf (stAt 59)) (scoOf (stAt 59)) (.none) (.none) (.none) (.str (Str.ofString "gluepage.packing") 926) none (.ref 516) (.none)
theorem fn_across (f : Fn c sc) (r : Room c (k + 1)) (binds : List (Str × Value)) (hb : ∀ s : Shared, (kk c.w.params).In s.heap → BindsTo s fd_across ⟨pos, []⟩ binds)
    (hl : (binds.all fun x => decide ((scoOf (stAt 59)).names.lookup x.1 = some .local)) = true)
    (h : ∀ c' : Cfg, c'.w = c.w → Fn c' (scoOf (stAt 59)) → Room c' k → (Hn c → Hn c') → W c' (execs (bodOf (stAt 59)) c'.env) binds.reverse H (fun fl _ H' => P (retv fl) m H')) : W c (call (.ref 517) pos) m H P :=
  W_call f r (by kernel_rfl) (by kernel_rfl) hb (locs hl) (by decide +kernel) (by kernel_rfl) (by kernel_rfl) (by kernel_rfl) h
noncomputable abbrev fd_check_column : FuncData := fnOf (Str.ofString "check_column") (Str.ofString "check_column") (parOf (stAt 60)) (bodOf (stAt 60)) (scoOf (stAt 60)) (.none) (.none) (.none) (.str (Str.ofString "gluepage.packing") 926) none (.ref 523) (.none)
theorem fn_check_column (f : Fn c sc) (r : Room c (k + 1)) (binds : List (Str × Value)) (hb : ∀ s : Shared, (kk c.w.params).In s.heap → BindsTo s fd_check_column ⟨pos, []⟩ binds)
    (hl : (binds.all fun x => decide ((scoOf (stAt 60)).names.lookup x.1 = some .local)) = true)
    (h : ∀ c' : Cfg, c'.w = c.w → Fn c' (scoOf (stAt 60)) → Room c' k → (Hn c → Hn c') → W c' (execs (bodOf (stAt 60)) c'.env) binds.reverse H (fun fl _ H' => P (retv fl) m H')) : W c (call (.ref 524) pos) m H P :=
  W_call f r (by kernel_rfl) (by kernel_rfl) hb (locs hl) (by decide +kernel) (by kernel_rfl) (by kernel_rfl) (by kernel_rfl) h
noncomputable abbrev fd_natural_column : FuncData := fnOf (Str.ofString "natural_column") (Str.ofString "natural_column") (parOf (stAt 61)) (bodOf (stAt 61)) (scoOf (stAt 61)) (.none) (.none) (.none) (.str (Str.ofString "gluepage.packing") 926) none (.ref 530) (.none)
theorem fn_natural_column (f : Fn c sc) (r : Room c (k + 1)) (binds : List (Str × Value)) (hb : ∀ s : Shared, (kk c.w.params).In s.heap → BindsTo s fd_natural_column ⟨pos, []⟩ binds)
    (hl : (binds.all fun x => decide ((scoOf (stAt 61)).names.lookup x.1 = some .local)) = true)
    (h : ∀ c' : Cfg, c'.w = c.w → Fn c' (scoOf (stAt 61)) → Room c' k → (Hn c → Hn c') → W c' (execs (bodOf (stAt 61)) c'.env) binds.reverse H (fun fl _ H' => P (retv fl) m H')) : W c (call (.ref 531) pos) m H P :=
  W_call f r (by kernel_rfl) (by kernel_rfl) hb (locs hl) (by decide +kernel) (by kernel_rfl) (by kernel_rfl) (by kernel_rfl) h
noncomputable abbrev fd_quotient : FuncData := fnOf (Str.ofString "quotient") (Str.ofString "quotient") (parOf (stAt 62)) (bodOf (stAt 62)) (scoOf (stAt 62)) (.none) (.none) (.none) (.str (Str.ofString "gluepage.packing") 926) none (.ref 537) (.none)
theorem fn_quotient (f : Fn c sc) (r : Room c (k + 1)) (binds : List (Str × Value)) (hb : ∀ s : Shared, (kk c.w.params).In s.heap → BindsTo s fd_quotient ⟨pos, []⟩ binds)
    (hl : (binds.all fun x => decide ((scoOf (stAt 62)).names.lookup x.1 = some .local)) = true)
    (h : ∀ c' : Cfg, c'.w = c.w → Fn c' (scoOf (stAt 62)) → Room c' k → (Hn c → Hn c') → W c' (execs (bodOf (stAt 62)) c'.env) binds.reverse H (fun fl _ H' => P (retv fl) m H')) : W c (call (.ref 538) pos) m H P :=
  W_call f r (by kernel_rfl) (by kernel_rfl) hb (locs hl) (by decide +kernel) (by kernel_rfl) (by kernel_rfl) (by kernel_rfl) h
noncomputable abbrev fd_set_glue : FuncData := fnOf (Str.ofString "set_glue") (Str.ofString "set_glue") (parOf (stAt 63)) (bodOf (stAt 63)) (scoOf (stAt 63)) (.none) (.none) (.none) (.str (Str.ofString "gluepage.packing") 926) none (.ref 544) (.none)
theorem fn_set_glue (f : Fn c sc) (r : Room c (k + 1)) (binds : List (Str × Value)) (hb : ∀ s : Shared, (kk c.w.params).In s.heap → BindsTo s fd_set_glue ⟨pos, []⟩ binds)
    (hl : (binds.all fun x => decide ((scoOf (stAt 63)).names.lookup x.1 = some .local)) = true)
    (h : ∀ c' : Cfg, c'.w = c.w → Fn c' (scoOf (stAt 63)) → Room c' k → (Hn c → Hn c') → W c' (execs (bodOf (stAt 63)) c'.env) binds.reverse H (fun fl _ H' => P (retv fl) m H')) : W c (call (.ref 545) pos) m H P :=
  W_call f r (by kernel_rfl) (by kernel_rfl) hb (locs hl) (by decide +kernel) (by kernel_rfl) (by kernel_rfl) (by kernel_rfl) h
noncomputable abbrev fd_flex : FuncData := fnOf (Str.ofString "flex") (Str.ofString "flex") (parOf (stAt 64)) (bodOf (stAt 64)) (scoOf (stAt 64)) (.none) (.none) (.none) (.str (Str.ofString "gluepage.packing") 926) none (.ref 551) (.none)
theorem fn_flex (f : Fn c sc) (r : Room c (k + 1)) (binds : List (Str × Value)) (hb : ∀ s : Shared, (kk c.w.params).In s.heap → BindsTo s fd_flex ⟨pos, []⟩ binds)
    (hl : (binds.all fun x => decide ((scoOf (stAt 64)).names.lookup x.1 = some .local)) = true)
    (h : ∀ c' : Cfg, c'.w = c.w → Fn c' (scoOf (stAt 64)) → Room c' k → (Hn c → Hn c') → W c' (execs (bodOf (stAt 64)) c'.env) binds.reverse H (fun fl _ H' => P (retv fl) m H')) : W c (call (.ref 552) pos) m H P :=
  W_call f r (by kernel_rfl) (by kernel_rfl) hb (locs hl) (by decide +kernel) (by kernel_rfl) (by kernel_rfl) (by kernel_rfl) h
noncomputable abbrev fd_set_part : FuncData := fnOf (Str.ofString "set_part") (Str.ofString "set_part") (parOf (stAt 65)) (bodOf (stAt 65)) (scoOf (stAt 65)) (.none) (.none) (.none) (.str (Str.ofString "gluepage.packing") 926) none (.ref 558) (.none)
theorem fn_set_part (f : Fn c sc) (r : Room c (k + 1)) (binds : List (Str × Value)) (hb : ∀ s : Shared, (kk c.w.params).In s.heap → BindsTo s fd_set_part ⟨pos, []⟩ binds)
    (hl : (binds.all fun x => decide ((scoOf (stAt 65)).names.lookup x.1 = some .local)) = true)
    (h : ∀ c' : Cfg, c'.w = c.w → Fn c' (scoOf (stAt 65)) → Room c' k → (Hn c → Hn c') → W c' (execs (bodOf (stAt 65)) c'.env) binds.reverse H (fun fl _ H' => P (retv fl) m H')) : W c (call (.ref 559) pos) m H P :=
  W_call f r (by kernel_rfl) (by kernel_rfl) hb (locs hl) (by decide +kernel) (by kernel_rfl) (by kernel_rfl) (by kernel_rfl) h
noncomputable abbrev fd_part_size : FuncData := fnOf (Str.ofString "part_size") (Str.ofString "part_size") (parOf (stAt 66)) (bodOf (stAt 66)) (scoOf (stAt 66)) (.none) (.none) (.none) (.str (Str.ofString "gluepage.packing") 926) none (.ref 565) (.none)
theorem fn_part_size (f : Fn c sc) (r : Room c (k + 1)) (binds : List (Str × Value)) (hb : ∀ s : Shared, (kk c.w.params).In s.heap → BindsTo s fd_part_size ⟨pos, []⟩ binds)
    (hl : (binds.all fun x => decide ((scoOf (stAt 66)).names.lookup x.1 = some .local)) = true)
    (h : ∀ c' : Cfg, c'.w = c.w → Fn c' (scoOf (stAt 66)) → Room c' k → (Hn c → Hn c') → W c' (execs (bodOf (stAt 66)) c'.env) binds.reverse H (fun fl _ H' => P (retv fl) m H')) : W c (call (.ref 566) pos) m H P :=
  W_call f r (by kernel_rfl) (by kernel_rfl) hb (locs hl) (by decide +kernel) (by kernel_rfl) (by kernel_rfl) (by kernel_rfl) h
noncomputable abbrev fd_places : FuncData := fnOf (Str.ofString "places") (Str.ofString "places") (parOf (stAt 67)) (bodOf (stAt 67)) (scoOf (stAt 67)) (.none) (.none) (.none) (.str (Str.ofString "gluepage.packing") 926) none (.ref 572) (.none)
theorem fn_places (f : Fn c sc) (r : Room c (k + 1)) (binds : List (Str × Value)) (hb : ∀ s : Shared, (kk c.w.params).In s.heap → BindsTo s fd_places ⟨pos, []⟩ binds)
    (hl : (binds.all fun x => decide ((scoOf (stAt 67)).names.lookup x.1 = some .local)) = true)
    (h : ∀ c' : Cfg, c'.w = c.w → Fn c' (scoOf (stAt 67)) → Room c' k → (Hn c → Hn c') → W c' (execs (bodOf (stAt 67)) c'.env) binds.reverse H (fun fl _ H' => P (retv fl) m H')) : W c (call (.ref 573) pos) m H P :=
  W_call f r (by kernel_rfl) (by kernel_rfl) hb (locs hl) (by decide +kernel) (by kernel_rfl) (by kernel_rfl) (by kernel_rfl) h
noncomputable abbrev fd_goal_size : FuncData := fnOf (Str.ofString "goal_size") (Str.ofString "goal_size") (parOf (stAt 68)) (bodOf (stAt 68)) (scoOf (stAt 68)) (.none) (.none) (.none) (.str (Str.ofString "gluepage.packing") 926) none (.ref 579) (.none)
theorem fn_goal_size (f : Fn c sc) (r : Room c (k + 1)) (binds : List (Str × Value)) (hb : ∀ s : Shared, (kk c.w.params).In s.heap → BindsTo s fd_goal_size ⟨pos, []⟩ binds)
    (hl : (binds.all fun x => decide ((scoOf (stAt 68)).names.lookup x.1 = some .local)) = true)
    (h : ∀ c' : Cfg, c'.w = c.w → Fn c' (scoOf (stAt 68)) → Room c' k → (Hn c → Hn c') → W c' (execs (bodOf (stAt 68)) c'.env) binds.reverse H (fun fl _ H' => P (retv fl) m H')) : W c (call (.ref 580) pos) m H P :=
  W_call f r (by kernel_rfl) (by kernel_rfl) hb (locs hl) (by decide +kernel) (by kernel_rfl) (by kernel_rfl) (by kernel_rfl) h
noncomputable abbrev fd_set_box : FuncData := fnOf (Str.ofString "set_box") (Str.ofString "set_box") (parOf (stAt 69)) (bodOf (stAt 69)) (scoOf (stAt 69)) (.none) (.none) (.none) (.str (Str.ofString "gluepage.packing") 926) none (.ref 586) (.none)
theorem fn_set_box (f : Fn c sc) (r : Room c (k + 1)) (binds : List (Str × Value)) (hb : ∀ s : Shared, (kk c.w.params).In s.heap → BindsTo s fd_set_box ⟨pos, []⟩ binds)
    (hl : (binds.all fun x => decide ((scoOf (stAt 69)).names.lookup x.1 = some .local)) = true)
    (h : ∀ c' : Cfg, c'.w = c.w → Fn c' (scoOf (stAt 69)) → Room c' k → (Hn c → Hn c') → W c' (execs (bodOf (stAt 69)) c'.env) binds.reverse H (fun fl _ H' => P (retv fl) m H')) : W c (call (.ref 587) pos) m H P :=
  W_call f r (by kernel_rfl) (by kernel_rfl) hb (locs hl) (by decide +kernel) (by kernel_rfl) (by kernel_rfl) (by kernel_rfl) h
noncomputable abbrev fd_vpack : FuncData := fnOf (Str.ofString "vpack") (Str.ofString "vpack") (parOf (stAt 70)) (bodOf (stAt 70)) (scoOf (stAt 70)) (.ref 588) (.none) (.none) (.str (Str.ofString "gluepage.packing") 926) none (.ref 594) (.none)
theorem fn_vpack (f : Fn c sc) (r : Room c (k + 1)) (binds : List (Str × Value)) (hb : ∀ s : Shared, (kk c.w.params).In s.heap → BindsTo s fd_vpack ⟨pos, []⟩ binds)
    (hl : (binds.all fun x => decide ((scoOf (stAt 70)).names.lookup x.1 = some .local)) = true)
    (h : ∀ c' : Cfg, c'.w = c.w → Fn c' (scoOf (stAt 70)) → Room c' k → (Hn c → Hn c') → W c' (execs (bodOf (stAt 70)) c'.env) binds.reverse H (fun fl _ H' => P (retv fl) m H')) : W c (call (.ref 595) pos) m H P :=
  W_call f r (by kernel_rfl) (by kernel_rfl) hb (locs hl) (by decide +kernel) (by kernel_rfl) (by kernel_rfl) (by kernel_rfl) h
noncomputable abbrev fd_law_pool : FuncData := fnOf (Str.ofString "_law_pool") (Str.ofString "_law_pool") (parOf (stAt 72)) (bodOf (stAt 72)) (scoOf (stAt 72)) (.none) (.none) (.none) (.str (Str.ofString "law_sq0053_01") 1055) none (.ref 601) (.none)
theorem fn_law_pool (f : Fn c sc) (r : Room c (k + 1)) (binds : List (Str × Value)) (hb : ∀ s : Shared, (kk c.w.params).In s.heap → BindsTo s fd_law_pool ⟨pos, []⟩ binds)
    (hl : (binds.all fun x => decide ((scoOf (stAt 72)).names.lookup x.1 = some .local)) = true)
    (h : ∀ c' : Cfg, c'.w = c.w → Fn c' (scoOf (stAt 72)) → Room c' k → (Hn c → Hn c') → W c' (execs (bodOf (stAt 72)) c'.env) binds.reverse H (fun fl _ H' => P (retv fl) m H')) : W c (call (.ref 602) pos) m H P :=
  W_call f r (by kernel_rfl) (by kernel_rfl) hb (locs hl) (by decide +kernel) (by kernel_rfl) (by kernel_rfl) (by kernel_rfl) h
noncomputable abbrev fd_law_take : FuncData := fnOf (Str.ofString "_law_take") (Str.ofString "_law_take") (parOf (stAt 73)) (bodOf (stAt 73)) (scoOf (stAt 73)) (.none) (.none) (.none) (.str (Str.ofString "law_sq0053_01") 1055) none (.ref 608) (.none)
theorem fn_law_take (f : Fn c sc) (r : Room c (k + 1)) (binds : List (Str × Value)) (hb : ∀ s : Shared, (kk c.w.params).In s.heap → BindsTo s fd_law_take ⟨pos, []⟩ binds)
    (hl : (binds.all fun x => decide ((scoOf (stAt 73)).names.lookup x.1 = some .local)) = true)
    (h : ∀ c' : Cfg, c'.w = c.w → Fn c' (scoOf (stAt 73)) → Room c' k → (Hn c → Hn c') → W c' (execs (bodOf (stAt 73)) c'.env) binds.reverse H (fun fl _ H' => P (retv fl) m H')) : W c (call (.ref 609) pos) m H P :=
  W_call f r (by kernel_rfl) (by kernel_rfl) hb (locs hl) (by decide +kernel) (by kernel_rfl) (by kernel_rfl) (by kernel_rfl) h
noncomputable abbrev fd_law_deeds : FuncData := fnOf (Str.ofString "_law_deeds") (Str.ofString "_law_deeds") (parOf (stAt 74)) (bodOf (stAt 74)) (scoOf (stAt 74)) (.none) (.none) (.none) (.str (Str.ofString "law_sq0053_01") 1055) none (.ref 615) (.none)
theorem fn_law_deeds (f : Fn c sc) (r : Room c (k + 1)) (binds : List (Str × Value)) (hb : ∀ s : Shared, (kk c.w.params).In s.heap → BindsTo s fd_law_deeds ⟨pos, []⟩ binds)
    (hl : (binds.all fun x => decide ((scoOf (stAt 74)).names.lookup x.1 = some .local)) = true)
    (h : ∀ c' : Cfg, c'.w = c.w → Fn c' (scoOf (stAt 74)) → Room c' k → (Hn c → Hn c') → W c' (execs (bodOf (stAt 74)) c'.env) binds.reverse H (fun fl _ H' => P (retv fl) m H')) : W c (call (.ref 616) pos) m H P :=
  W_call f r (by kernel_rfl) (by kernel_rfl) hb (locs hl) (by decide +kernel) (by kernel_rfl) (by kernel_rfl) (by kernel_rfl) h
noncomputable abbrev fd_law_column : FuncData := fnOf (Str.ofString "_law_column") (Str.ofString "_law_column") (parOf (stAt 75)) (bodOf (stAt 75)) (scoOf (stAt 75)) (.none) (.none) (.none) (.str (Str.ofString "law_sq0053_01") 1055) none (.ref 622) (.none)
theorem fn_law_column (f : Fn c sc) (r : Room c (k + 1)) (binds : List (Str × Value)) (hb : ∀ s : Shared, (kk c.w.params).In s.heap → BindsTo s fd_law_column ⟨pos, []⟩ binds)
    (hl : (binds.all fun x => decide ((scoOf (stAt 75)).names.lookup x.1 = some .local)) = true)
    (h : ∀ c' : Cfg, c'.w = c.w → Fn c' (scoOf (stAt 75)) → Room c' k → (Hn c → Hn c') → W c' (execs (bodOf (stAt 75)) c'.env) binds.reverse H (fun fl _ H' => P (retv fl) m H')) : W c (call (.ref 623) pos) m H P :=
  W_call f r (by kernel_rfl) (by kernel_rfl) hb (locs hl) (by decide +kernel) (by kernel_rfl) (by kernel_rfl) (by kernel_rfl) h
noncomputable abbrev fd_law_rows : FuncData := fnOf (Str.ofString "_law_rows") (Str.ofString "_law_rows") (parOf (stAt 76)) (bodOf (stAt 76)) (scoOf (stAt 76)) (.none) (.none) (.none) (.str (Str.ofString "law_sq0053_01") 1055) none (.ref 629) (.none)
theorem fn_law_rows (f : Fn c sc) (r : Room c (k + 1)) (binds : List (Str × Value)) (hb : ∀ s : Shared, (kk c.w.params).In s.heap → BindsTo s fd_law_rows ⟨pos, []⟩ binds)
    (hl : (binds.all fun x => decide ((scoOf (stAt 76)).names.lookup x.1 = some .local)) = true)
    (h : ∀ c' : Cfg, c'.w = c.w → Fn c' (scoOf (stAt 76)) → Room c' k → (Hn c → Hn c') → W c' (execs (bodOf (stAt 76)) c'.env) binds.reverse H (fun fl _ H' => P (retv fl) m H')) : W c (call (.ref 630) pos) m H P :=
  W_call f r (by kernel_rfl) (by kernel_rfl) hb (locs hl) (by decide +kernel) (by kernel_rfl) (by kernel_rfl) (by kernel_rfl) h
noncomputable abbrev fd_law_begins : FuncData := fnOf (Str.ofString "_law_begins") (Str.ofString "_law_begins") (parOf (stAt 77)) (bodOf (stAt 77)) (scoOf (stAt 77)) (.none) (.none) (.none) (.str (Str.ofString "law_sq0053_01") 1055) none (.ref 634) (.none)
theorem fn_law_begins (f : Fn c sc) (r : Room c (k + 1)) (binds : List (Str × Value)) (hb : ∀ s : Shared, (kk c.w.params).In s.heap → BindsTo s fd_law_begins ⟨pos, []⟩ binds)
    (hl : (binds.all fun x => decide ((scoOf (stAt 77)).names.lookup x.1 = some .local)) = true)
    (h : ∀ c' : Cfg, c'.w = c.w → Fn c' (scoOf (stAt 77)) → Room c' k → (Hn c → Hn c') → W c' (execs (bodOf (stAt 77)) c'.env) binds.reverse H (fun fl _ H' => P (retv fl) m H')) : W c (call (.ref 635) pos) m H P :=
  W_call f r (by kernel_rfl) (by kernel_rfl) hb (locs hl) (by decide +kernel) (by kernel_rfl) (by kernel_rfl) (by kernel_rfl) h
noncomputable abbrev fd_law_refused : FuncData := fnOf (Str.ofString "_law_refused") (Str.ofString "_law_refused") (parOf (stAt 78)) (bodOf (stAt 78)) (scoOf (stAt 78)) (.none) (.none) (.none) (.str (Str.ofString "law_sq0053_01") 1055) none (.ref 641) (.none)
theorem fn_law_refused (f : Fn c sc) (r : Room c (k + 1)) (binds : List (Str × Value)) (hb : ∀ s : Shared, (kk c.w.params).In s.heap → BindsTo s fd_law_refused ⟨pos, []⟩ binds)
    (hl : (binds.all fun x => decide ((scoOf (stAt 78)).names.lookup x.1 = some .local)) = true)
    (h : ∀ c' : Cfg, c'.w = c.w → Fn c' (scoOf (stAt 78)) → Room c' k → (Hn c → Hn c') → W c' (execs (bodOf (stAt 78)) c'.env) binds.reverse H (fun fl _ H' => P (retv fl) m H')) : W c (call (.ref 642) pos) m H P :=
  W_call f r (by kernel_rfl) (by kernel_rfl) hb (locs hl) (by decide +kernel) (by kernel_rfl) (by kernel_rfl) (by kernel_rfl) h
noncomputable abbrev fd_law : FuncData := fnOf (Str.ofString "law") (Str.ofString "law") (parOf (stAt 79)) (bodOf (stAt 79)) (scoOf (stAt 79)) (.none) (.none) (.none) (.str (Str.ofString "law_sq0053_01") 1055) none (.ref 646) (.none)
theorem fn_law (f : Fn c sc) (r : Room c (k + 1)) (binds : List (Str × Value)) (hb : ∀ s : Shared, (kk c.w.params).In s.heap → BindsTo s fd_law ⟨pos, []⟩ binds)
    (hl : (binds.all fun x => decide ((scoOf (stAt 79)).names.lookup x.1 = some .local)) = true)
    (h : ∀ c' : Cfg, c'.w = c.w → Fn c' (scoOf (stAt 79)) → Room c' k → (Hn c → Hn c') → W c' (execs (bodOf (stAt 79)) c'.env) binds.reverse H (fun fl _ H' => P (retv fl) m H')) : W c (call (.ref 647) pos) m H P :=
  W_call f r (by kernel_rfl) (by kernel_rfl) hb (locs hl) (by decide +kernel) (by kernel_rfl) (by kernel_rfl) (by kernel_rfl) h
end

-- MIter
theorem entry_unchain : entryFor table "proto.unchain" = some Builtin.«proto.unchain» := entryFor_of_tree (by kernel_rfl)
/-- what may be handled at a heap -/
noncomputable def CalmAt (A : Around) (h : Heap) : Prop := A.handled = none ∨ ∃ e o, A.handled = some (.ref e) ∧ h.get? e = some o ∧ Exc0 o
theorem CalmAt.ext {A : Around} {h h' : Heap} (x : CalmAt A h) (hk : ∀ e o, A.handled = some (.ref e) → h.get? e = some o → h'.get? e = some o) : CalmAt A h' := by
  rcases x with x | ⟨e, o, a, b, d⟩
  · exact .inl x
  · exact .inr ⟨e, o, a, hk _ _ a b, d⟩
section
variable {prog : Program} {w : World} {A : Around} {E : Value → Shared → Prop} {s : Shared}
theorem raiseNew_calm {α : Type} {e : Addr} {oe : Obj} {vs : Array Value} {Q : α → Shared → Prop} (hc : CalmAt A s.heap) (he : s.heap.get? e = some oe) (hd : oe.data = .fields vs) (hv : 2 < vs.size)
    (h : ∀ h' : Heap, (∀ b o, b ≠ e → s.heap.get? b = some o → h'.get? b = some o) → (∃ o', h'.get? e = some o' ∧ o'.cls = oe.cls) → E (.ref e) { s with heap := h' }) : wpAny (model prog w) A (raiseNew (.ref e) : Sem α) Q E s := by
  unfold raiseNew
  refine wpAny_bind (wpAny_handled ?_)
  rcases hc with hc | ⟨x, o, a, b, vx, hvx, hx2⟩
  · rw [hc]
    exact wpAny_bind (wpAny_pure (wpAny_throw (h s.heap (fun _ _ _ e => e) ⟨oe, he, rfl⟩)))
  · rw [a]
    dsimp only
    by_cases hxe : x = e
    · subst hxe
      rw [if_neg (by simp)]
      exact wpAny_bind (wpAny_pure (wpAny_throw (h s.heap (fun _ _ _ e => e) ⟨oe, he, rfl⟩)))
    · rw [if_pos (by simpa using hxe)]
      refine wpAny_bind (wpAny_holding (wpAny_runValue (codeAny_builtin entry_unchain ?_)))
      unfold Builtin.«proto.unchain»
      dsimp only
      refine wpAny_bind (wpAny_field b hvx (x := .none) hx2 ?_)
      show wpAny _ _ (if (Value.none == Value.none) = true then _ else _) _ _ _
      rw [if_pos (by decide)]
      refine wpAny_bind (wpAny_pure (wpAny_pure ?_))
      dsimp only
      unfold updateField
      refine wpAny_bind (wpAny_bind (wpAny_load he ?_))
      rw [hd]
      dsimp only
      rw [if_pos hv]
      refine wpAny_update he (wpAny_throw (h _ (fun b o hb q => (Heap.SameBut.update ..).extBut b o hb q) ⟨_, Heap.get?_update_self _ he (Obj.isFreed_of_fields (Obj.data_mapFields hd _)), Obj.cls_mapFields ..⟩))

theorem list_end_calm {it l : Addr} {i : Nat} {items : Array Value} {Q : Option Value → Shared → Prop} (hh : CalmAt A s.heap)
    (hit : Heap.IsListIter s.heap it l i) (hl : Heap.IsList s.heap l items) (hx : items[i]? = none)
    (hQ : ∀ h', Heap.ExtBut it s.heap h' → Q none { s with heap := h' }) : wpAny (model prog w) A (pyNext (.ref it)) Q E s := by
  obtain ⟨o, ho, hc, hd⟩ := id hit
  obtain ⟨ol, hol, _, nl, hdl⟩ := hl
  unfold pyNext
  refine wpAny_bind (wpAny_attempt (wpAny_callSpecial?_slot (name := Str.ofString "__next__") hit.typeIs slot_listiter_next
    (wpAny_call_entry slot_listiter_next hit.typeIs entry_listiter_next ?_ (args_listiter_next _))))
  show wpAny _ _ (field (.ref it) 0 >>= _) _ _ s
  refine wpAny_bind (wpAny_field ho hd (x := .ref l) rfl ?_)
  show wpAny _ _ (if (Value.ref l == Value.none) = true then _ else _) _ _ s
  rw [if_neg (show ¬ ((Value.ref l == Value.none) = true) from Bool.false_ne_true)]
  show wpAny _ _ (field (.ref it) 1 >>= _) _ _ s
  refine wpAny_bind (wpAny_field ho hd (x := .int i 0) rfl ?_)
  show wpAny _ _ (seqItems? (.ref l) >>= _) _ _ s
  refine wpAny_bind (wpAny_seqItems hol hdl ?_)
  simp only [Int.toNat_natCast, hx]
  refine wpAny_bind (wpAny_rule (wpAny_bind (wpAny_setField ho hd (by simp) ?_)))
  show wpAny _ _ (newExc (.type "StopIteration") [] >>= _) _ _ _
  refine wpAny_bind ?_
  simp only [newExc, newTuple]
  refine wpAny_bind (wpAny_newObj_type ?_ (by size_fits))
  refine wpAny_bind (m := firstArgMember _ _) (wpAny_of_eq (a := Value.none) (by first | rfl | (simp only [firstArgMember]; rfl)) ?_)
  refine wpAny_newObj_type ?_ (by size_fits)
  have hit0 : ∀ e x, CalmAt A.in1 s.heap → A.in1.handled = some (.ref e) → s.heap.get? e = some x → e ≠ it := by
    rintro e x q1 q2 q3 rfl
    rcases q1 with q | ⟨e', o', a1, a2, vs, a3, a4⟩
    · rw [q] at q2; cases q2
    · rw [q2] at a1; cases a1
      rw [ho] at a2; cases a2
      rw [hd] at a3; cases a3
      simp at a4
  refine raiseNew_calm (CalmAt.ext (h := s.heap) hh fun e x q1 q2 => ((Heap.SameBut.update ..).extBut.push _).push _ e x (hit0 e x hh q1 q2) q2) (Heap.get?_push_size _ rfl) rfl (by simp only [Array.size_append]; exact Nat.lt_of_lt_of_le (by decide : 2 < 6) (Nat.le_add_right _ _)) fun h' k1 k2 => ?_
  obtain ⟨oe, k2, k3⟩ := k2
  refine wpAny_bind (wpAny_isInstance (T := "StopIteration") (b := true) ⟨_, k2, k3⟩ isSubtype_stop ?_)
  refine wpAny_pure (hQ _ fun b ob hb q => ?_)
  exact k1 b ob (Nat.ne_of_lt (Heap.lt_size ((Heap.SameBut.update ..).extBut.push _ b ob hb q))) (((Heap.SameBut.update ..).extBut.push _).push _ b ob hb q)

theorem tup_end_calm {it l : Addr} {i : Nat} {items : Array Value} {Q : Option Value → Shared → Prop} (hh : CalmAt A s.heap)
    (hit : IsTupIter s.heap it l i) (hl : IsTup s.heap l items) (hx : items[i]? = none)
    (hQ : ∀ h', Heap.ExtBut it s.heap h' → Q none { s with heap := h' }) : wpAny (model prog w) A (pyNext (.ref it)) Q E s := by
  obtain ⟨o, ho, hc, hd⟩ := id hit
  obtain ⟨ol, hol, _, nl, hdl⟩ := hl
  unfold pyNext
  refine wpAny_bind (wpAny_attempt (wpAny_callSpecial?_slot (name := Str.ofString "__next__") hit.typeIs slot_tupleiter_next
    (wpAny_call_entry slot_tupleiter_next hit.typeIs entry_tupleiter_next ?_ (args_tupleiter_next _))))
  show wpAny _ _ (field (.ref it) 0 >>= _) _ _ s
  refine wpAny_bind (wpAny_field ho hd (x := .ref l) rfl ?_)
  show wpAny _ _ (if (Value.ref l == Value.none) = true then _ else _) _ _ s
  rw [if_neg (show ¬ ((Value.ref l == Value.none) = true) from Bool.false_ne_true)]
  show wpAny _ _ (field (.ref it) 1 >>= _) _ _ s
  refine wpAny_bind (wpAny_field ho hd (x := .int i 0) rfl ?_)
  show wpAny _ _ (seqItems? (.ref l) >>= _) _ _ s
  refine wpAny_bind (wpAny_seqItems hol hdl ?_)
  simp only [Int.toNat_natCast, hx]
  refine wpAny_bind (wpAny_rule (wpAny_bind (wpAny_setField ho hd (by simp) ?_)))
  show wpAny _ _ (newExc (.type "StopIteration") [] >>= _) _ _ _
  refine wpAny_bind ?_
  simp only [newExc, newTuple]
  refine wpAny_bind (wpAny_newObj_type ?_ (by size_fits))
  refine wpAny_bind (m := firstArgMember _ _) (wpAny_of_eq (a := Value.none) (by first | rfl | (simp only [firstArgMember]; rfl)) ?_)
  refine wpAny_newObj_type ?_ (by size_fits)
  have hit0 : ∀ e x, CalmAt A.in1 s.heap → A.in1.handled = some (.ref e) → s.heap.get? e = some x → e ≠ it := by
    rintro e x q1 q2 q3 rfl
    rcases q1 with q | ⟨e', o', a1, a2, vs, a3, a4⟩
    · rw [q] at q2; cases q2
    · rw [q2] at a1; cases a1
      rw [ho] at a2; cases a2
      rw [hd] at a3; cases a3
      simp at a4
  refine raiseNew_calm (CalmAt.ext (h := s.heap) hh fun e x q1 q2 => ((Heap.SameBut.update ..).extBut.push _).push _ e x (hit0 e x hh q1 q2) q2) (Heap.get?_push_size _ rfl) rfl (by simp only [Array.size_append]; exact Nat.lt_of_lt_of_le (by decide : 2 < 6) (Nat.le_add_right _ _)) fun h' k1 k2 => ?_
  obtain ⟨oe, k2, k3⟩ := k2
  refine wpAny_bind (wpAny_isInstance (T := "StopIteration") (b := true) ⟨_, k2, k3⟩ isSubtype_stop ?_)
  refine wpAny_pure (hQ _ fun b ob hb q => ?_)
  exact k1 b ob (Nat.ne_of_lt (Heap.lt_size ((Heap.SameBut.update ..).extBut.push _ b ob hb q))) (((Heap.SameBut.update ..).extBut.push _).push _ b ob hb q)
end

-- MLoop
noncomputable def excs (A : Around) : List Addr := match A.handled with | some (.ref e) => [e] | _ => []
theorem CalmAt.frame {A : Around} {h h' : Heap} (x : CalmAt A h) (hk : ∀ b ∈ excs A, ∀ o, h.get? b = some o → h'.get? b = some o) : CalmAt A h' :=
  x.ext fun e o q r => hk e (by unfold excs; rw [q]; exact .head _) o r
noncomputable def SeqIt (h : Heap) (I D : Addr) (items : Array Value) (i : Nat) : Prop := (h.IsListIter I D i ∧ h.IsList D items) ∨ (IsTupIter h I D i ∧ IsTup h D items)
theorem SeqIt.get {h : Heap} {I D : Addr} {items : Array Value} {i : Nat} (x : SeqIt h I D items i) : ∃ o l, h.get? I = some o ∧ o.data = .fields #[.ref l, .int i 0] := by
  rcases x with ⟨⟨o, a, b, c⟩, _⟩ | ⟨⟨o, a, b, c⟩, _⟩
  · exact ⟨o, D, a, c⟩
  · exact ⟨o, D, a, c⟩
theorem calm_not_iter {A : Around} {h h' : Heap} {I l : Addr} {i : Nat} {o : Obj} (hh : CalmAt A h) (ho : h.get? I = some o) (hd : o.data = .fields #[.ref l, .int i 0]) (hs : ∀ b x, b ≠ I → h.get? b = some x → h'.get? b = some x) : CalmAt A h' := by
  refine hh.ext fun e x q1 q2 => hs e x ?_ q2
  rintro rfl
  rcases hh with q | ⟨e', o', a1, a2, vs, a3, a4⟩
  · rw [q] at q1; cases q1
  · rw [q1] at a1; cases a1
    rw [ho] at a2; cases a2
    rw [hd] at a3; cases a3
    simp at a4
theorem walks_seq {prog : Program} {w : World} {A : Around} (I D : Addr) (hne : D ≠ I) (items : Array Value) :
    Walks prog w A I (I :: D :: excs A) [I] items.size (fun i v => items[i]? = some v) (fun i h => SeqIt h I D items i ∧ CalmAt A h) where
  sub := fun b hb => by simp at hb; simp [hb]
  frame := fun i h h' st hk => ⟨by
    rcases st.1 with ⟨a, b⟩ | ⟨a, b⟩
    · exact .inl ⟨a.at fun o e => hk I (by simp) o e, b.at fun o e => hk D (by simp) o e⟩
    · obtain ⟨oa, a1, a2⟩ := a
      obtain ⟨ob, b1, b2⟩ := b
      exact .inr ⟨⟨oa, hk I (by simp) _ a1, a2⟩, ⟨ob, hk D (by simp) _ b1, b2⟩⟩, st.2.frame fun b hb o e => hk b (by simp [hb]) o e⟩
  item := fun i s Q E hi st hQ => by
    obtain ⟨oI, l, g1, g2⟩ := st.1.get
    rcases st.1 with ⟨a, b⟩ | ⟨a, b⟩
    · refine wpAny_pyNext_list_item a b (x := items[i]) (by simp [hi]) fun h' hit' hs' => ?_
      exact hQ _ h' s.toks (by simp [hi]) ⟨.inl ⟨hit', b.extBut hs'.extBut hne⟩, calm_not_iter st.2 g1 g2 hs'.extBut⟩ fun b o hb e => hs'.extBut b o (fun h => hb (by simp [h])) e
    · refine next_tuple_item a b (x := items[i]) (by simp [hi]) fun h' hit' hs' => ?_
      exact hQ _ h' s.toks (by simp [hi]) ⟨.inr ⟨hit', b.extBut hs'.extBut hne⟩, calm_not_iter st.2 g1 g2 hs'.extBut⟩ fun b o hb e => hs'.extBut b o (fun h => hb (by simp [h])) e
  done := fun s Q E st hQ => by
    rcases st.1 with ⟨a, b⟩ | ⟨a, b⟩
    · exact list_end_calm st.2 a b (by simp) fun h' he' => hQ h' s.toks fun b o hb e => he' b o (fun h => hb (by simp [h])) e
    · exact tup_end_calm st.2 a b (by simp) fun h' he' => hQ h' s.toks fun b o hb e => he' b o (fun h => hb (by simp [h])) e
  self := fun i s Q E st hQ => by
    rcases st.1 with ⟨a, b⟩ | ⟨a, b⟩
    · exact wpAny_pyIter_listiter a hQ
    · exact wpAny_pyIter_tupleiter a hQ

structure Like (c c' : Cfg) : Prop where
  prog : c'.prog = c.prog
  w : c'.w = c.w
  env : c'.env = c.env
  A : c'.A = c.A
  fn : ∀ {sc}, Fn c sc → Fn c' sc
theorem Like.hn {c c' : Cfg} (l : Like c c') (h : Hn c) : Hn c' := by show c'.A.handled = none; rw [l.A]; exact h
theorem Like.room {c c' : Cfg} {k : Nat} (l : Like c c') (h : Room c k) : Room c' k := ⟨by rw [l.A]; exact h.1, by rw [l.A]; exact h.2⟩
noncomputable def Loop (J : Mp → Led → Prop) (P : Flow → Mp → Led → Prop) : Flow → Mp → Led → Prop
  | .next, m, H => J m H
  | .cont, m, H => J m H
  | .brk, m, H => P .next m H
  | .ret v, m, H => P (.ret v) m H
theorem Loop_next {J : Mp → Led → Prop} {P : Flow → Mp → Led → Prop} {m : Mp} {H : Led} (h : J m H) : Loop J P .next m H := h
theorem Loop_cont {J : Mp → Led → Prop} {P : Flow → Mp → Led → Prop} {m : Mp} {H : Led} (h : J m H) : Loop J P .cont m H := h
theorem Loop_ret {J : Mp → Led → Prop} {P : Flow → Mp → Led → Prop} {m : Mp} {H : Led} {v : Value} (h : P (.ret v) m H) : Loop J P (.ret v) m H := h
noncomputable def within (c : Cfg) (FR : Led) (E : Value → Shared → Prop) : Cfg := { c with FR := FR ++ c.FR, E := E }
theorem Like.within {c : Cfg} {FR : Led} {E : Value → Shared → Prop} : Like c (within c FR E) where
  prog := rfl
  w := rfl
  env := rfl
  A := rfl
  fn := fun f => ⟨f.scope, f.kind, f.glob, f.blts, f.ok, by
    rcases f.calm with q | ⟨e, o, q1, q2, q3⟩
    · exact .inl q
    · exact .inr ⟨e, o, q1, List.mem_append_right _ q2, q3⟩⟩
section
variable {c : Cfg} {m : Mp} {H : Led} {sc : Scope} {s : Shared}
/-- an object beside the ledger may be changed by what keeps all else -/
theorem Inv.beside {I : Addr} {oI oI' : Obj} {E : Value → Shared → Prop} {h' : Heap} {tk : Nat} (J : Inv (within c [(I, oI)] E) m H s) (hfr : ∀ p ∈ c.FR, p.1 ≠ I) (hk : ∀ b o, b ≠ I → s.heap.get? b = some o → h'.get? b = some o) (hI : h'.get? I = some oI') :
    Inv (within c [(I, oI')] E) m H { s with heap := h', toks := tk } := by
  have z := J.N (I, oI) (List.mem_append_right _ (.head _))
  obtain ⟨oL, es, ep, hL, r⟩ := J.F.ns
  refine ⟨J.gens, J.drawn, J.os, ⟨_, ⟨⟨oL, es, ep, hk _ _ z.2.1.symm hL, r⟩, fun b o e => hk b o ?_ (J.F.keep b o e), J.F.above⟩, J.kn⟩, fun p hp => ?_, fun p hp q hq => ?_⟩
  · rintro rfl; exact absurd (z.2.2.symm.trans e) (fun q => nomatch q)
  · rcases List.mem_append.mp hp with q | q
    · have y := J.N p (List.mem_append_left _ q)
      exact ⟨hk _ _ (J.ap p q (I, oI) (.head _)) y.1, y.2⟩
    · rcases List.mem_cons.mp q with rfl | q
      · exact ⟨hI, z.2⟩
      · have y := J.N p (List.mem_append_right _ (.tail _ q))
        exact ⟨hk _ _ (hfr p q) y.1, y.2⟩
  · rcases List.mem_cons.mp hq with rfl | hq
    · exact J.ap p hp (I, oI) (.head _)
    · exact J.ap p hp q (.tail _ hq)
theorem Inv.out {I : Addr} {oI : Obj} {E : Value → Shared → Prop} (J : Inv (within c [(I, oI)] E) m H s) : Inv c m H s :=
  ⟨J.gens, J.drawn, J.os, J.Fx, fun p hp => J.N p (by
    rcases List.mem_append.mp hp with q | q
    · exact List.mem_append_left _ q
    · exact List.mem_append_right _ (.tail _ q)), fun p hp q hq => J.ap p hp q (.tail _ hq)⟩
theorem Inv.calm (I : Inv c m H s) (h : Calm c) : CalmAt c.A s.heap := by
  rcases h with q | ⟨e, o, q1, q2, q3⟩
  · exact .inl q
  · exact .inr ⟨e, o, q1, (I.N _ (List.mem_append_right _ q2)).1, q3⟩
/-- the turns of a for, under any walk -/
theorem forW {target : Expr} {body : List Stmt} {I : Addr} {oI : Obj} {fp : List Addr} {n : Nat} {Pn : Nat → Value → Prop} {St : Nat → Heap → Prop} {P : Flow → Mp → Led → Prop} {J : Nat → Mp → Led → Prop}
    (Wk : Walks c.prog c.w c.A I fp [I] n Pn St) (I0 : Inv (within c [(I, oI)] c.E) m H s) (hfr : ∀ p ∈ c.FR, p.1 ≠ I) (hst : St 0 s.heap) (hI : ∀ i h, St i h → ∃ o, h.get? I = some o)
    (hfp : ∀ b ∈ fp, b = I ∨ ∃ o, ∀ i m' H', J i m' H' → (b, o) ∈ H' ++ c.FR) (j0 : J 0 m H)
    (step : ∀ i m' H' c' v, i < n → Pn i v → J i m' H' → Like c c' → (∀ s, Inv c' m' H' s → St (i + 1) s.heap) → W c' (letOwnedTupleGo target (.ref I) v) m' H' fun _ m₁ H₁ => W c' (assign target c'.env v) m₁ H₁ fun _ m₂ H₂ => W c' (execs body c'.env) m₂ H₂ (Loop (J (i + 1)) P))
    (done : ∀ m' H', J n m' H' → P .next m' H') :
    codeAny (model c.prog c.w) c.A (.forLoop target (.ref I) body [] c.env) (fun r s' => match r with | .ok f => ∃ m' H', Inv c m' H' s' ∧ P f m' H' | .error e => cameBackBy (model c.prog c.w) c.A c.env c.E e s') s := by
  refine codeAny_forLoop_any (fun k s' => ∃ i m' H' oI, i ≤ n ∧ k = n + 1 - i ∧ Inv (within c [(I, oI)] c.E) m' H' s' ∧ J i m' H' ∧ St i s'.heap) ?_ (n + 1) ⟨0, m, H, oI, Nat.zero_le _, rfl, I0, j0, hst⟩
  rintro k s' ⟨i, m', H', o, hi, rfl, Iv, hj, hs⟩
  by_cases hlt : i < n
  · refine Wk.item i _ _ _ hlt hs fun v h₁ tk₁ hP hst₁ hk₁ => ?_
    obtain ⟨o₁, ho₁⟩ := hI _ _ hst₁
    have I₁ := (Iv.beside hfr (tk := tk₁) (fun b x hb e => hk₁ b x (by simpa using hb) e) ho₁)
    let E' : Value → Shared → Prop := notedBy (model c.prog c.w) c.A c.env fun e s' => cameBackBy (model c.prog c.w) c.A c.env c.E e s'
    have I₁' : Inv (within c [(I, o₁)] E') m' H' { s' with heap := h₁, toks := tk₁ } := ⟨I₁.gens, I₁.drawn, I₁.os, I₁.Fx, I₁.N, I₁.ap⟩
    have keepSt : ∀ m'' H'' j, j = i ∨ j = i + 1 → J j m'' H'' → ∀ s'', Inv (within c [(I, o₁)] E') m'' H'' s'' → St (i + 1) s''.heap := by
      intro m'' H'' j _ hj' s'' J''
      refine Wk.frame _ _ _ hst₁ fun b hb x e => ?_
      rcases hfp b hb with rfl | ⟨y, hy⟩
      · rw [show h₁.get? b = some o₁ from ho₁] at e
        cases e
        exact (J''.N (b, o₁) (List.mem_append_right _ (.head _))).1
      · have a1 : (b, y) ∈ H' ++ (within c [(I, o₁)] E').FR := by
          rcases List.mem_append.mp (hy _ _ _ hj) with q | q
          · exact List.mem_append_left _ q
          · exact List.mem_append_right _ (.tail _ q)
        have a2 : (b, y) ∈ H'' ++ (within c [(I, o₁)] E').FR := by
          rcases List.mem_append.mp (hy _ _ _ hj') with q | q
          · exact List.mem_append_left _ q
          · exact List.mem_append_right _ (.tail _ q)
        have b1 := (I₁'.N _ a1).1
        rw [show h₁.get? b = some x from e] at b1
        cases b1
        exact (J''.N _ a2).1
    have w := step i m' H' (within c [(I, o₁)] E') v hlt hP hj .within (fun s'' J'' => keepSt _ _ i (.inl rfl) hj s'' J'') _ I₁'
    refine wpAny_mono w (fun _ s₁ ⟨m₁, H₁, J₁, w₁⟩ => ?_) fun _ _ e => e
    refine wpAny_mono (w₁ _ J₁) (fun _ s₂ ⟨m₂, H₂, J₂, w₂⟩ => ?_) fun _ _ e => e
    refine wpAny_mono (w₂ _ J₂) (fun fl s₃ ⟨m₃, H₃, J₃, p⟩ => ?_) fun _ _ e => e
    have J₃' : Inv (within c [(I, o₁)] c.E) m₃ H₃ s₃ := ⟨J₃.gens, J₃.drawn, J₃.os, J₃.Fx, J₃.N, J₃.ap⟩
    cases fl with
    | next => exact ⟨n + 1 - (i + 1), by omega, i + 1, m₃, H₃, o₁, hlt, rfl, J₃', p, keepSt _ _ (i + 1) (.inr rfl) p _ J₃⟩
    | cont => exact ⟨n + 1 - (i + 1), by omega, i + 1, m₃, H₃, o₁, hlt, rfl, J₃', p, keepSt _ _ (i + 1) (.inr rfl) p _ J₃⟩
    | brk => exact ⟨m₃, H₃, J₃'.out, p⟩
    | ret v => exact ⟨m₃, H₃, J₃'.out, p⟩
  · have hin : i = n := by omega
    subst hin
    refine Wk.done _ _ _ hs fun h₁ tk₁ hk₁ => wpAny_execs_nil ?_
    have z := Iv.N (I, o) (List.mem_append_right _ (.head _))
    obtain ⟨oL, es, ep, hL, r⟩ := Iv.F.ns
    refine ⟨m', H', ⟨Iv.gens, Iv.drawn, Iv.os, ⟨_, ⟨⟨oL, es, ep, hk₁ _ _ (fun q => z.2.1 (List.mem_singleton.mp q).symm) hL, r⟩, fun b x e => hk₁ b x ?_ (Iv.F.keep b x e), Iv.F.above⟩, Iv.kn⟩, fun p hp => ?_, Iv.out.ap⟩, done _ _ hj⟩
    · simp only [List.mem_singleton]; rintro rfl; exact absurd (z.2.2.symm.trans e) (fun q => nomatch q)
    · have y := Iv.out.N p hp
      refine ⟨hk₁ _ _ ?_ y.1, y.2⟩
      simp only [List.mem_singleton]
      rcases List.mem_append.mp hp with q | q
      · exact Iv.ap p q (I, o) (.head _)
      · exact hfr p q

/-- what an iterable must bring for a for loop -/
inductive ForGo (c : Cfg) (target : Expr) (body : List Stmt) (P : Flow → Mp → Led → Prop) (xv : Value) (m : Mp) (H : Led) : Prop
  | mk (D : Addr) (o : Obj) (vs : List Value) (J : Nat → Mp → Led → Prop) (e : xv = .ref D) (hl : IsL o vs ∨ IsT o vs) (j0 : J 0 m H) (hJ : ∀ i m' H', J i m' H' → (D, o) ∈ H')
    (step : ∀ i m' H' c' v, vs[i]? = some v → J i m' H' → Like c c' → W c' (assign target c'.env v) m' H' fun _ m₂ H₂ => W c' (execs body c'.env) m₂ H₂ (Loop (J (i + 1)) P))
    (go : (∀ I v, letOwnedTupleGo target (.ref I) v = pure ()) ∨ (IsL o vs ∧ (∃ elts k pos, target = .Tuple elts k pos) ∧ ∀ v ∈ vs, ∃ a, v = .ref a))
    (done : ∀ m' H', J vs.length m' H' → P .next m' H') : ForGo c target body P xv m H
theorem seqAt_of (I : Inv c m H s) {D : Addr} {o : Obj} {vs : List Value} (h : (D, o) ∈ H) (hl : IsL o vs ∨ IsT o vs) : s.heap.IsList D vs.toArray ∨ IsTup s.heap D vs.toArray := by
  rcases hl with q | q
  · exact .inl (I.lst h q)
  · exact .inr (I.tup h q)
theorem W_for {target iter : Expr} {body : List Stmt} {pos : Pos} {P : Flow → Mp → Led → Prop} (f : Fn c sc) (h : W c (eval iter c.env) m H (ForGo c target body P))
    (hs : ∀ x, foldedSetIterable iter c.env x = pure x := by intro _; rfl) : W c (exec (.For target iter body [] pos) c.env) m H P := fun s I => by
  refine wpAny_For (W_use h I fun xv s₁ m₁ H₁ I₁ g => ?_) hs
  obtain ⟨D, o, vs, J, rfl, hl, j0, hJ, step, hgo, done⟩ := g
  have hD := hJ _ _ _ j0
  have hlt : D < s₁.heap.objs.size := Heap.lt_size (I₁.at_ hD)
  have go : ∀ (oI : Obj) (s₂ : Shared), s₂ = { s₁ with heap := s₁.heap.push oI } → oI.isFreed = false → SeqIt s₂.heap s₁.heap.objs.size D vs.toArray 0 →
      codeAny (model c.prog c.w) c.A (.forLoop target (.ref s₁.heap.objs.size) body [] c.env) (fun r s' => match r with | .ok f => ∃ m' H', Inv c m' H' s' ∧ P f m' H' | .error e => cameBackBy (model c.prog c.w) c.A c.env c.E e s') s₂ := by
    rintro oI s₂ rfl hfree hseq
    have Ip := I₁.push oI (tk := s₁.toks) hfree
    have I0 : Inv (within c [(s₁.heap.objs.size, oI)] c.E) m₁ H₁ { s₁ with heap := s₁.heap.push oI } := ⟨Ip.gens, Ip.drawn, Ip.os, Ip.Fx, fun p hp => Ip.N p (by
      rcases List.mem_append.mp hp with q | q
      · exact List.mem_append_left _ (.tail _ q)
      · rcases List.mem_cons.mp q with rfl | q
        · exact List.mem_append_left _ (.head _)
        · exact List.mem_append_right _ q), fun p hp q hq => by
      rcases List.mem_cons.mp hq with rfl | hq
      · exact I₁.fresh p hp
      · exact I₁.ap p hp q hq⟩
    have hsz : vs.toArray.size = vs.length := by simp
    refine forW (oI := oI) (n := vs.toArray.size) (walks_seq s₁.heap.objs.size D (Nat.ne_of_lt hlt) vs.toArray) I0 (fun p hp => Nat.ne_of_lt (I₁.lt p (List.mem_append_right _ hp))) ⟨hseq, I0.calm (Like.within.fn f).calm⟩
      (fun i h st => by obtain ⟨x, _, e, _⟩ := st.1.get; exact ⟨x, e⟩) (fun b hb => ?_) j0 ?_ (by rw [hsz]; exact done)
    · rcases List.mem_cons.mp hb with rfl | hb
      · exact .inl rfl
      · rcases List.mem_cons.mp hb with rfl | hb
        · exact .inr ⟨o, fun i m' H' j => List.mem_append_left _ (hJ _ _ _ j)⟩
        · rcases f.calm with q | ⟨e, x, q1, q2, q3⟩
          · unfold excs at hb; rw [q] at hb; cases hb
          · unfold excs at hb; rw [q1] at hb
            obtain rfl := List.mem_singleton.mp hb
            exact .inr ⟨x, fun _ _ _ _ => List.mem_append_right _ q2⟩
    · intro i m' H' c' v hi hv hj lk hst
      have hv' : vs[i]? = some v := by simpa using hv
      have w := step i m' H' c' v hv' hj lk
      intro s' J'
      rcases hgo with e | ⟨h1, ⟨elts, k, ps, rfl⟩, h3⟩
      · rw [e]; exact wpAny_pure ⟨_, _, J', w⟩
      · obtain ⟨a, rfl⟩ := h3 v (List.mem_of_getElem? hv')
        rcases (hst s' J').1 with ⟨x, y⟩ | ⟨x, y⟩
        · exact wpAny_letOwnedTupleGo_listiter x ⟨_, _, J', w⟩
        · exfalso
          obtain ⟨oy, y1, y2, _⟩ := y
          have z := (J'.at_ (hJ _ _ _ hj)).symm.trans y1
          cases z
          have q := h1.1.symm.trans y2
          injection q with q
          exact absurd q (by decide)
  rcases seqAt_of I₁ hD hl with hq | hq
  · exact wpAny_pyIter_list hq (go _ _ rfl rfl (.inl ⟨⟨_, Heap.get?_push_size _ rfl, rfl, rfl⟩, hq.push _⟩))
  · exact iter_tuple hq (go _ _ rfl rfl (.inr ⟨⟨_, Heap.get?_push_size _ rfl, rfl, rfl⟩, hq.keeps fun b o e => Heap.get?_push_of_some _ e⟩))
end

-- MComp
noncomputable def compC (c : Cfg) (scope : Scope) (cl : List (Str × Addr)) (C : Addr) (X : Led) (E : Value → Shared → Prop) : Cfg := { c with env := compEnvC scope cl C c.env, FR := X ++ c.FR, E := E }
/-- a comprehension's scope within a function's -/
noncomputable def relab (scope sc : Scope) : Scope :=
  { scope with names := scope.names.map fun (n, k) => if (k == .free && sc.kind == .function && sc.names.lookup n == some .cell) then (n, .cell) else (n, k) }
theorem relabel_eq {scope sc : Scope} {env : Env} (h : env.scope = sc) : relabel scope env = relab scope sc := by
  unfold relabel relab Env.kindOf
  rw [h]
structure CompLike (c c' : Cfg) (scope : Scope) (cl : List (Str × Addr)) : Prop where
  prog : c'.prog = c.prog
  w : c'.w = c.w
  A : c'.A = c.A
  cells : c'.env.cells = cl
  fn : ∀ {sc}, Fn c sc → scope.kind = .function → Fn c' (relab scope sc)
theorem CompLike.hn {c c' : Cfg} {scope : Scope} {cl : List (Str × Addr)} (l : CompLike c c' scope cl) (h : Hn c) : Hn c' := by show c'.A.handled = none; rw [l.A]; exact h
theorem CompLike.room {c c' : Cfg} {scope : Scope} {cl : List (Str × Addr)} {k : Nat} (l : CompLike c c' scope cl) (h : Room c k) : Room c' k := ⟨by rw [l.A]; exact h.1, by rw [l.A]; exact h.2⟩
theorem CompLike.of {c : Cfg} {scope : Scope} {cl : List (Str × Addr)} {C : Addr} {X : Led} {E : Value → Shared → Prop} : CompLike c (compC c scope cl C X E) scope cl where
  prog := rfl
  w := rfl
  A := rfl
  cells := rfl
  fn := fun f hk => ⟨relabel_eq f.scope, hk, f.glob, f.blts, f.ok, by
    rcases f.calm with q | ⟨e, o, q1, q2, q3⟩
    · exact .inl q
    · exact .inr ⟨e, o, q1, List.mem_append_right _ q2, q3⟩⟩
/-- the tests of a clause -/
noncomputable def tests (ifs : List Expr) (env : Env) : Sem Bool := forIn ifs true fun c r => if r = true then do let ok ← isTrue c env (eval c env); pure (ForInStep.yield ok) else pure (ForInStep.yield r)
section
variable {c : Cfg} {m : Mp} {H : Led} {sc : Scope} {s : Shared}
theorem tests_nil {P : Bool → Mp → Led → Prop} (h : P true m H) : W c (tests [] c.env) m H P := fun s I => by
  unfold tests; rw [List.forIn_nil]; exact wpAny_pure ⟨_, _, I, h⟩
theorem tests_one {t : Expr} {P : Bool → Mp → Led → Prop} (h : W c (isTrue t c.env (eval t c.env)) m H P) : W c (tests [t] c.env) m H P := fun s I => by
  unfold tests
  simp only [List.forIn_cons, List.forIn_nil, if_true]
  exact wpAny_bind (wpAny_bind (wpAny_mono (h s I) (fun b s' hb => wpAny_pure (wpAny_pure hb)) fun _ _ x => x))
theorem W_assignN {x : Str} {px : Pos} {v : Value} {P : Unit → Mp → Led → Prop} (h : W c (storeName c.env x v) m H P) : W c (assign (.Name x px) c.env v) m H P := fun s I => wpAny_assign_Name (h s I)
/-- the ledger after a change at one address beside it -/
theorem Inv.alter {c₁ c₂ : Cfg} {a : Addr} {h' : Heap} {tk : Nat} (J : Inv c₁ m H s) (e0 : c₂.h₀ = c₁.h₀) (eL : c₂.L = c₁.L) (eg : c₂.gens = c₁.gens) (ed : c₂.drawn = c₁.drawn) (eo : c₂.os = c₁.os)
    (ha : ∃ o, (a, o) ∈ c₁.FR) (hk : ∀ b o, b ≠ a → s.heap.get? b = some o → h'.get? b = some o) (hFR : ∀ p ∈ c₂.FR, (p ∈ c₁.FR ∧ p.1 ≠ a) ∨ (p.1 = a ∧ h'.get? a = some p.2)) :
    Inv c₂ m H { s with heap := h', toks := tk } := by
  obtain ⟨oa, ha⟩ := ha
  have z := J.N (a, oa) (List.mem_append_right _ ha)
  obtain ⟨oL, es, ep, hL, r⟩ := J.F.ns
  refine ⟨J.gens.trans eg.symm, J.drawn.trans ed.symm, J.os.trans eo.symm, ⟨_, ⟨?_, fun b o e => ?_, ?_⟩, J.kn⟩, fun p hp => ?_, fun p hp q hq => ?_⟩
  · rw [eL]; exact ⟨oL, es, ep, hk _ _ z.2.1.symm hL, r⟩
  · rw [e0] at e
    refine hk b o ?_ (J.F.keep b o e)
    rintro rfl; exact absurd (z.2.2.symm.trans e) (fun q => nomatch q)
  · rw [e0, eL]; exact J.F.above
  · rw [eL, e0]
    rcases List.mem_append.mp hp with q | q
    · have y := J.N p (List.mem_append_left _ q)
      exact ⟨hk _ _ (J.ap p q _ ha) y.1, y.2⟩
    · rcases hFR p q with ⟨h1, h2⟩ | ⟨h1, h2⟩
      · have y := J.N p (List.mem_append_right _ h1)
        exact ⟨hk _ _ h2 y.1, y.2⟩
      · rw [h1]; exact ⟨h2, z.2⟩
  · rcases hFR q hq with ⟨h1, h2⟩ | ⟨h1, h2⟩
    · exact J.ap p hp q h1
    · rw [h1]; exact J.ap p hp _ ha
inductive CompGo (c : Cfg) (scope : Scope) (cl : List (Str × Addr)) (x : Str) (ifs : List Expr) (elt : Expr) (P : Value → Mp → Led → Prop) (xv : Value) (m : Mp) (H : Led) : Prop
  | mk (D : Addr) (o : Obj) (vs : List Value) (J : Nat → List Value → Led → Prop) (e : xv = .ref D) (hl : IsL o vs ∨ IsT o vs) (sz : vs.length ≤ sizeLine) (j0 : J 0 [] H) (hJ : ∀ i ys H', J i ys H' → (D, o) ∈ H')
    (step : ∀ i ys H' m' c' v, vs[i]? = some v → J i ys H' → CompLike c c' scope cl → W c' (tests ifs c'.env) ((x, v) :: m') H' fun ok m₂ H₂ => if ok = true then W c' (eval elt c'.env) m₂ H₂ fun y _ H₃ => J (i + 1) (ys ++ [y]) H₃ else J (i + 1) ys H₂)
    (done : ∀ ys H' a o', J vs.length ys H' → PlL o' ys → (∀ p ∈ H', p.1 ≠ a) → P (.ref a) m ((a, o') :: H')) : CompGo c scope cl x ifs elt P xv m H
theorem W_comp {elt iter : Expr} {x : Str} {px : Pos} {ifs : List Expr} {scope : Scope} {cl : List (Str × Addr)} {pos : Pos} {P : Value → Mp → Led → Prop} (f : Fn c sc) (hclos : closureFor scope c.env = pure cl) (hcell : ∀ y ∈ scope.names, y.2 ≠ .cell)
    (hkind : scope.kind = .function) (hnames : ∀ y ∈ scope.names, y.2 = .local → scope.names.lookup y.1 = some .local) (hx : scope.names.lookup x = some .local)
    (h : W c (eval iter c.env) m H (CompGo c scope cl x ifs elt P)) (hs : ∀ x, foldedSetIterable iter c.env x = pure x := by intro _; rfl) : W c (eval (.ListComp elt [⟨.Name x px, iter, ifs, 0⟩] scope pos) c.env) m H P := fun s I => by
  rw [eval_ListComp]
  refine wpAny_comprehension_free (use := none) rfl hs hclos hkind hnames (W_use h I fun xv s₁ m₁ H₁ I₁ g => ?_)
  obtain ⟨D, o, vs, J, rfl, hl, hsz, j0, hJ, step, done⟩ := g
  have hD := hJ _ _ _ j0
  have hlt : D < s₁.heap.objs.size := Heap.lt_size (I₁.at_ hD)
  obtain ⟨oL, es, ep, hL, rL⟩ := id I₁.F.ns
  have hLlt : c.L < s₁.heap.objs.size := Heap.lt_size hL
  have go : ∀ (oI : Obj) (s₂ : Shared), s₂ = { s₁ with heap := s₁.heap.push oI } → oI.isFreed = false → SeqIt s₂.heap s₁.heap.objs.size D vs.toArray 0 →
      wpAny (model c.prog c.w) c.A (newList []) (fun acc s₃ => wpAny (model c.prog c.w) c.A (newFunctionEnv scope c.env.globals cl [] c.env.qual none .none (some c.env)) (fun cenv s₄ =>
        codeAny (model c.prog c.w) c.A (.compStart (.ListComp elt [⟨.Name x px, iter, ifs, 0⟩] scope pos) 0 (.ref s₁.heap.objs.size) acc { cenv with scope := relabel scope c.env })
          (compPost (model c.prog c.w) c.A c.E none (fun v s' => ∃ m' H', Inv c m' H' s' ∧ P v m' H') acc cenv.locals) s₄) c.E s₃) c.E s₂ := by
    rintro oI s₂ rfl hfree hseq
    refine wpAny_newObj_type (wpAny_newFunctionEnv hcell (by intro y hy; simp at hy) (fun h₁ hns₁ hsb₁ => ?_) hkind)
    dsimp only at hns₁ hsb₁ ⊢
    obtain ⟨Ia, hIa⟩ : ∃ n, n = s₁.heap.objs.size := ⟨_, rfl⟩
    obtain ⟨Ac, hAc⟩ : ∃ n, n = (s₁.heap.push oI).objs.size := ⟨_, rfl⟩
    have hA1 : Ac = Ia + 1 := by rw [hAc, Heap.size_push, hIa]
    have kI : (s₁.heap.push oI).get? Ia = some oI := by rw [hIa]; exact Heap.get?_push_size _ hfree
    have kA : ((s₁.heap.push oI).push (listOf [].toArray 0)).get? Ac = some (listOf [].toArray 0) := by rw [hAc]; exact Heap.get?_push_size _ rfl
    generalize hH2 : (s₁.heap.push oI).push { cls := .type "list", dict := none, data := .seq ([] : List Value).toArray } = H2 at hns₁ hsb₁ ⊢
    rw [show (s₁.heap.push oI).push (listOf [].toArray 0) = H2 from hH2] at kA
    obtain ⟨C, hC⟩ : ∃ n, n = H2.objs.size := ⟨_, rfl⟩
    have hC1 : C = Ia + 2 := by rw [hC, ← hH2, Heap.size_push, ← hAc, hA1]
    rw [← hIa] at hseq hlt hLlt ⊢
    rw [← hAc]
    rw [← hC] at hns₁ hsb₁ ⊢
    have hIA : Ia < Ac := by omega
    have hAC : Ac < C := by omega
    have hIC : Ia < C := by omega
    have ltO : ∀ b o, s₁.heap.get? b = some o → Nat.lt b Ia := fun b o e => by rw [hIa]; exact Heap.lt_size e
    have old : ∀ b o, s₁.heap.get? b = some o → h₁.get? b = some o := fun b o e => hsb₁.extBut b o (Nat.ne_of_lt (Nat.lt_trans (ltO b o e) hIC)) (Heap.get?_push_of_some _ (hH2 ▸ Heap.get?_push_of_some _ (Heap.get?_push_of_some _ e)))
    have eI : h₁.get? Ia = some oI := hsb₁.extBut _ _ (Nat.ne_of_lt hIC) (Heap.get?_push_of_some _ (hH2 ▸ Heap.get?_push_of_some _ kI))
    have eA : h₁.get? Ac = some (listOf [].toArray 0) := hsb₁.extBut _ _ (Nat.ne_of_lt hAC) (Heap.get?_push_of_some _ kA)
    have hab : c.h₀.objs.size ≤ Ia := Nat.le_of_lt (Nat.lt_of_le_of_lt I₁.F.above hLlt)
    have none0 : ∀ a, Nat.le c.h₀.objs.size a → c.h₀.get? a = none := fun a ha => by
      cases e : c.h₀.get? a with
      | none => rfl
      | some o' => exact absurd (Heap.lt_size e) (Nat.not_lt.mpr ha)
    have nI : c.h₀.get? Ia = none := none0 _ hab
    have nA : c.h₀.get? Ac = none := none0 _ (Nat.le_trans hab (Nat.le_of_lt hIA))
    have nL : c.h₀.get? c.L = none := none0 _ I₁.F.above
    have lt₁ : ∀ p ∈ H₁ ++ c.FR, Nat.lt p.1 Ia := fun p hp => by rw [hIa]; exact I₁.lt p hp
    let cf := compC c scope cl C
    have I0 : Inv (cf [(c.L, oL), (Ia, oI), (Ac, listOf [].toArray 0)] c.E) [] H₁ { s₁ with heap := h₁, toks := s₁.toks + 0 } := by
      refine ⟨I₁.gens, I₁.drawn, I₁.os, ⟨_, ⟨hns₁, fun b o e => old b o (I₁.F.keep b o e), Nat.le_trans hab (Nat.le_of_lt hIC)⟩, fun _ _ e => e⟩, fun p hp => ?_, fun p hp q hq => ?_⟩
      · show h₁.get? p.1 = some p.2 ∧ p.1 ≠ C ∧ c.h₀.get? p.1 = none
        rcases List.mem_append.mp hp with q | q
        · have y := I₁.N p (List.mem_append_left _ q)
          exact ⟨old _ _ y.1, Nat.ne_of_lt (Nat.lt_trans (lt₁ p (List.mem_append_left _ q)) hIC), y.2.2⟩
        · rcases List.mem_cons.mp q with rfl | q
          · exact ⟨old _ _ hL, Nat.ne_of_lt (Nat.lt_trans hLlt hIC), nL⟩
          rcases List.mem_cons.mp q with rfl | q
          · exact ⟨eI, Nat.ne_of_lt hIC, nI⟩
          rcases List.mem_cons.mp q with rfl | q
          · exact ⟨eA, Nat.ne_of_lt hAC, nA⟩
          · have y := I₁.N p (List.mem_append_right _ q)
            exact ⟨old _ _ y.1, Nat.ne_of_lt (Nat.lt_trans (lt₁ p (List.mem_append_right _ q)) hIC), y.2.2⟩
      · have z := lt₁ p (List.mem_append_left _ hp)
        rcases List.mem_cons.mp hq with rfl | q
        · exact (I₁.N p (List.mem_append_left _ hp)).2.1
        rcases List.mem_cons.mp q with rfl | q
        · exact Nat.ne_of_lt z
        rcases List.mem_cons.mp q with rfl | q
        · exact Nat.ne_of_lt (Nat.lt_trans z hIA)
        · exact I₁.ap p hp _ q
    have ltF : ∀ p ∈ c.FR, Nat.lt p.1 Ia := fun p hp => lt₁ p (List.mem_append_right _ hp)
    have Wk := walks_seq (prog := c.prog) (w := c.w) (A := c.A) Ia D (Nat.ne_of_lt hlt) vs.toArray
    have hvs : vs.toArray.size = vs.length := by simp
    have hst0 : SeqIt h₁ Ia D vs.toArray 0 ∧ CalmAt c.A h₁ := Wk.frame 0 (s₁.heap.push oI) _ ⟨hseq, (I₁.calm f.calm).ext fun e x _ q => Heap.get?_push_of_some _ q⟩ fun b hb x e =>
      hsb₁.extBut _ _ (Nat.ne_of_lt (Nat.lt_trans (by have := Heap.lt_size e; rw [← hAc] at this; exact this) hAC)) (Heap.get?_push_of_some _ (hH2 ▸ Heap.get?_push_of_some _ e))
    have loop : codeAny (model c.prog c.w) c.A (.compLoop (.ListComp elt [⟨.Name x px, iter, ifs, 0⟩] scope pos) 0 (.ref Ia) (.ref Ac) (compEnvC scope cl C c.env))
        (compPost (model c.prog c.w) c.A c.E none (fun v s' => ∃ m' H', Inv c m' H' s' ∧ P v m' H') (.ref Ac) C) { s₁ with heap := h₁, toks := s₁.toks + 0 } := by
      have hLI : c.L ≠ Ia := Nat.ne_of_lt hLlt
      have hLA : c.L ≠ Ac := Nat.ne_of_lt (Nat.lt_trans hLlt hIA)
      have hIA' : Ia ≠ Ac := Nat.ne_of_lt hIA
      have fI : ∀ p ∈ c.FR, p.1 ≠ Ia := fun p hp => Nat.ne_of_lt (ltF p hp)
      have fA : ∀ p ∈ c.FR, p.1 ≠ Ac := fun p hp => Nat.ne_of_lt (Nat.lt_trans (ltF p hp) hIA)
      let E' : Value → Shared → Prop := notedBy (model c.prog c.w) c.A (compEnvC scope cl C c.env) fun e s' => compPost (model c.prog c.w) c.A c.E none (fun v s' => ∃ m' H', Inv c m' H' s' ∧ P v m' H') (.ref Ac) C (.error e) s'
      refine codeAny_compLoop_tests (fun k s' => ∃ i m' H' oI' n' ys, i ≤ vs.length ∧ k = vs.length + 1 - i ∧ List.length ys ≤ i ∧ Inv (cf [(c.L, oL), (Ia, oI'), (Ac, listOf ys.toArray n')] c.E) m' H' s' ∧ J i ys H' ∧ (SeqIt s'.heap Ia D vs.toArray i ∧ CalmAt c.A s'.heap)) ?_ (vs.length + 1)
        ⟨0, [], H₁, oI, 0, [], Nat.zero_le _, rfl, Nat.le_refl _, I0, j0, hst0⟩
      rintro k s' ⟨i, m', H', oI', n', ys, hi, rfl, hys, Iv, hj, hst⟩
      by_cases hlt' : i < vs.length
      · refine Wk.item i _ _ _ (by rw [hvs]; exact hlt') hst fun v h₂ tk₂ hP hst₂ hk₂ => ?_
        obtain ⟨o₂, _, ho₂, _⟩ := hst₂.1.get
        have I₂ : Inv (cf [(c.L, oL), (Ia, o₂), (Ac, listOf ys.toArray n')] E') m' H' { s' with heap := h₂, toks := tk₂ } := by
          refine Iv.alter rfl rfl rfl rfl rfl (a := Ia) ⟨oI', .tail _ (.head _)⟩ (fun b o hb e => hk₂ b o (by simpa using hb) e) fun p hp => ?_
          rcases List.mem_cons.mp hp with rfl | q
          · exact .inl ⟨.head _, hLI⟩
          rcases List.mem_cons.mp q with rfl | q
          · exact .inr ⟨rfl, ho₂⟩
          rcases List.mem_cons.mp q with rfl | q
          · exact .inl ⟨.tail _ (.tail _ (.head _)), hIA'.symm⟩
          · exact .inl ⟨.tail _ (.tail _ (.tail _ q)), fI p q⟩
        have stay : ∀ E'' m₃ H₃ ys₃ n₃ j s₃, J j ys₃ H₃ → Inv (cf [(c.L, oL), (Ia, o₂), (Ac, listOf ys₃.toArray n₃)] E'') m₃ H₃ s₃ → (SeqIt s₃.heap Ia D vs.toArray (i + 1) ∧ CalmAt c.A s₃.heap) := by
          intro E'' m₃ H₃ ys₃ n₃ j s₃ j₃ I₃
          refine Wk.frame _ _ _ hst₂ fun b hb ob e => ?_
          rcases List.mem_cons.mp hb with rfl | hb
          · rw [ho₂] at e; cases e
            exact (I₃.N _ (List.mem_append_right _ (.tail _ (.head _)))).1
          rcases List.mem_cons.mp hb with rfl | hb
          · have y := I₂.at_ (hJ _ _ _ hj)
            rw [show h₂.get? b = some ob from e] at y; cases y
            exact I₃.at_ (hJ _ _ _ j₃)
          · rcases f.calm with q | ⟨ea, ex, q1, q2, q3⟩
            · unfold excs at hb; rw [q] at hb; cases hb
            · unfold excs at hb; rw [q1] at hb
              obtain rfl := List.mem_singleton.mp hb
              have y := (I₂.N _ (List.mem_append_right _ (.tail _ (.tail _ (.tail _ q2))))).1
              rw [show h₂.get? b = some ob from e] at y; cases y
              exact (I₃.N _ (List.mem_append_right _ (.tail _ (.tail _ (.tail _ q2))))).1
        have lk : CompLike c (cf [(c.L, oL), (Ia, o₂), (Ac, listOf ys.toArray n')] E') scope cl := .of
        have hv' : vs[i]? = some v := by simpa using hP
        have wa : W (cf [(c.L, oL), (Ia, o₂), (Ac, listOf ys.toArray n')] E') (assign (.Name x px) (compEnvC scope cl C c.env) v) m' H' fun _ m₃ H₃ => m₃ = (x, v) :: m' ∧ H₃ = H' :=
          W_assignN (c := cf [(c.L, oL), (Ia, o₂), (Ac, listOf ys.toArray n')] E') (S_store (sc := relabel scope c.env) rfl hkind (lookup_relabel_local hx) ⟨rfl, rfl⟩)
        refine wpAny_mono (wa _ I₂) (fun _ s₃ ⟨m₃, H₃, I₃, e1, e2⟩ => ?_) fun _ _ e => e
        subst e1 e2
        refine wpAny_mono (step i ys H₃ m' _ v hv' hj lk _ I₃) (fun ok s₄ ⟨m₄, H₄, I₄, p₄⟩ => ?_) fun _ _ e => e
        cases ok with
        | false =>
          rw [if_neg (by decide)] at p₄ ⊢
          have I₄' : Inv (cf [(c.L, oL), (Ia, o₂), (Ac, listOf ys.toArray n')] c.E) m₄ H₄ s₄ := ⟨I₄.gens, I₄.drawn, I₄.os, I₄.Fx, I₄.N, I₄.ap⟩
          exact ⟨vs.length + 1 - (i + 1), by omega, i + 1, m₄, H₄, o₂, n', ys, hlt', rfl, by omega, I₄', p₄, stay _ _ _ _ _ _ _ p₄ I₄⟩
        | true =>
          rw [if_pos rfl] at p₄ ⊢
          refine wpAny_mono (p₄ _ I₄) (fun y s₅ ⟨m₅, H₅, I₅, p₅⟩ => ?_) fun _ _ e => e
          have gA := (I₅.N (Ac, listOf ys.toArray n') (List.mem_append_right _ (.tail _ (.tail _ (.head _))))).1
          refine append_at gA (fun h₆ hs₆ ho₆ => ?_) (by rw [List.size_toArray]; omega)
          have e6 : (ys.toArray.push y) = (ys ++ [y]).toArray := by simp
          rw [e6] at ho₆
          have I₆ : Inv (cf [(c.L, oL), (Ia, o₂), (Ac, listOf (ys ++ [y]).toArray (n' + 1))] c.E) m₅ H₅ { s₅ with heap := h₆, toks := s₅.toks } := by
            refine I₅.alter rfl rfl rfl rfl rfl (a := Ac) ⟨_, .tail _ (.tail _ (.head _))⟩ (fun b o hb e => hs₆.extBut b o hb e) fun p hp => ?_
            rcases List.mem_cons.mp hp with rfl | q
            · exact .inl ⟨.head _, hLA⟩
            rcases List.mem_cons.mp q with rfl | q
            · exact .inl ⟨.tail _ (.head _), hIA'⟩
            rcases List.mem_cons.mp q with rfl | q
            · exact .inr ⟨rfl, ho₆⟩
            · exact .inl ⟨.tail _ (.tail _ (.tail _ q)), fA p q⟩
          exact ⟨vs.length + 1 - (i + 1), by omega, i + 1, m₅, H₅, o₂, n' + 1, ys ++ [y], hlt', rfl, by simp; omega, I₆, p₅, stay _ _ _ _ _ _ _ p₅ I₆⟩
      · have hin : i = vs.length := by omega
        subst hin
        refine Wk.done _ _ _ (by rw [hvs]; exact hst) fun h₂ tk₂ hk₂ => ?_
        have hk : ∀ b o, b ≠ Ia → s'.heap.get? b = some o → h₂.get? b = some o := fun b o hb e => hk₂ b o (by simpa using hb) e
        obtain ⟨oC, eC, pC, gC, rC⟩ := Iv.F.ns
        have nCI : C ≠ Ia := Nat.ne_of_gt hIC
        refine ⟨_, ⟨oC, eC, pC, hk _ _ nCI gC, rC⟩, fun h₃ hs₃ => ?_⟩
        have keep : ∀ p ∈ H' ++ (cf [(c.L, oL), (Ia, oI'), (Ac, listOf ys.toArray n')] c.E).FR, p.1 ≠ Ia → h₃.get? p.1 = some p.2 := fun p hp hne => by
          have y := Iv.N p hp
          exact hs₃.extBut _ _ y.2.1 (hk _ _ hne y.1)
        have nH : ∀ p ∈ H', p.1 ≠ Ia ∧ p.1 ≠ Ac ∧ p.1 ≠ c.L := fun p hp => ⟨Iv.ap p hp (Ia, oI') (.tail _ (.head _)), Iv.ap p hp (Ac, listOf ys.toArray n') (.tail _ (.tail _ (.head _))), Iv.ap p hp (c.L, oL) (.head _)⟩
        refine ⟨m₁, (Ac, listOf ys.toArray n') :: H', ⟨Iv.gens, Iv.drawn, Iv.os, ⟨_, ⟨⟨oL, es, ep, ?_, rL⟩, fun b o e => ?_, I₁.F.above⟩, I₁.kn⟩, fun p hp => ?_, fun p hp q hq => ?_⟩, done ys H' Ac _ hj ⟨n', rfl⟩ fun p hp => (nH p hp).2.1⟩
        · exact keep (c.L, oL) (List.mem_append_right _ (.head _)) hLI
        · have hb : Nat.lt b Ia := Nat.lt_of_lt_of_le (Heap.lt_size e) hab
          exact hs₃.extBut _ _ (Nat.ne_of_lt (Nat.lt_trans hb hIC)) (hk _ _ (Nat.ne_of_lt hb) (Iv.F.keep b o e))
        · rcases List.mem_cons.mp hp with rfl | hp
          · exact ⟨keep (Ac, listOf ys.toArray n') (List.mem_append_right _ (.tail _ (.tail _ (.head _)))) hIA'.symm, hLA.symm, nA⟩
          rcases List.mem_append.mp hp with q | q
          · have y := Iv.N p (List.mem_append_left _ q)
            exact ⟨keep p (List.mem_append_left _ q) (nH p q).1, (nH p q).2.2, y.2.2⟩
          · have y := I₁.N p (List.mem_append_right _ q)
            exact ⟨keep p (List.mem_append_right _ (.tail _ (.tail _ (.tail _ q)))) (fI p q), y.2⟩
        · rcases List.mem_cons.mp hp with rfl | hp
          · exact (fA q hq).symm
          · exact Iv.ap p hp q (.tail _ (.tail _ (.tail _ hq)))
    exact codeAny_compStart_list loop (Wk.self 0 _ _ _ hst0 loop)
  rcases seqAt_of I₁ hD hl with hq | hq
  · exact wpAny_pyIter_list hq (go _ _ rfl rfl (.inl ⟨⟨_, Heap.get?_push_size _ rfl, rfl, rfl⟩, hq.push _⟩))
  · exact iter_tuple hq (go _ _ rfl rfl (.inr ⟨⟨_, Heap.get?_push_size _ rfl, rfl, rfl⟩, hq.keeps fun b o e => Heap.get?_push_of_some _ e⟩))
end

-- MStmt
section
variable {c : Cfg} {m : Mp} {H : Led} {sc : Scope} {s : Shared}
-- constants
theorem W_none {k : Nat} {pos : Pos} {P : Value → Mp → Led → Prop} (h : P .none m H) : W c (eval (.Constant .none k pos) c.env) m H P := fun s I => wpAny_Constant_none ⟨_, _, I, h⟩
theorem W_boolc {b : Bool} {k : Nat} {pos : Pos} {P : Value → Mp → Led → Prop} (h : P (.bool b) m H) : W c (eval (.Constant (.bool b) k pos) c.env) m H P := fun s I => wpAny_Constant_bool ⟨_, _, I, h⟩
theorem W_strc {x : Str} {k : Nat} {pos : Pos} {P : Value → Mp → Led → Prop} (h : ∀ t, P (.str x t) m H) : W c (eval (.Constant (.str x) k pos) c.env) m H P := fun s I => wpAny_Constant_str ⟨_, _, I.tk _, h _⟩
-- is
theorem V_isN {v : Value} {P : Value → Mp → Led → Prop} (h : P (.bool (v == .none)) m H) : W c (compareOp .Is v .none) m H P := fun s I => is_none_gen ⟨_, _, I, h⟩
theorem V_isntN {v : Value} {P : Value → Mp → Led → Prop} (h : P (.bool (!(v == .none))) m H) : W c (compareOp .IsNot v .none) m H P := fun s I => isnot_none_gen ⟨_, _, I, h⟩
theorem V_isI {a : Int} {t : Tok} {P : Value → Mp → Led → Prop} (h : P (.bool false) m H) : W c (compareOp .Is (.int a t) .none) m H P := fun s I => is_int_none ⟨_, _, I, h⟩
theorem V_isntI {a : Int} {t : Tok} {P : Value → Mp → Led → Prop} (h : P (.bool true) m H) : W c (compareOp .IsNot (.int a t) .none) m H P := fun s I => isnot_int_none ⟨_, _, I, h⟩
theorem V_isR {a : Addr} {P : Value → Mp → Led → Prop} (h : P (.bool false) m H) : W c (compareOp .Is (.ref a) .none) m H P := fun s I => is_ref_none ⟨_, _, I, h⟩
theorem V_isntR {a : Addr} {P : Value → Mp → Led → Prop} (h : P (.bool true) m H) : W c (compareOp .IsNot (.ref a) .none) m H P := fun s I => isnot_ref_none ⟨_, _, I, h⟩
theorem V_isNN {P : Value → Mp → Led → Prop} (h : P (.bool true) m H) : W c (compareOp .Is .none .none) m H P := fun s I => is_none_none ⟨_, _, I, h⟩
theorem V_isntNN {P : Value → Mp → Led → Prop} (h : P (.bool false) m H) : W c (compareOp .IsNot .none .none) m H P := fun s I => isnot_none_none ⟨_, _, I, h⟩
theorem V_isSelf {a : Addr} {P : Value → Mp → Led → Prop} (h : P (.bool true) m H) : W c (compareOp .Is (.ref a) (.ref a)) m H P := fun s I => wpAny_is_ref_self ⟨_, _, I, h⟩
theorem V_isB {a b : Bool} {P : Value → Mp → Led → Prop} (h : P (.bool (a == b)) m H) : W c (compareOp .Is (.bool a) (.bool b)) m H P := fun s I => is_bool ⟨_, _, I, h⟩
theorem V_eqB {a b : Bool} {P : Value → Mp → Led → Prop} (h : P (.bool (a == b)) m H) : W c (compareOp .Eq (.bool a) (.bool b)) m H P := fun s I => PyProof.Rows.eq_bool ⟨_, _, I, h⟩
theorem V_pow {a n : Int} {t u : Tok} {P : Value → Mp → Led → Prop} (h : ∀ k, P (.int (a ^ n.toNat) k) m H) (hn : 0 ≤ n := by decide) (hn2 : n ≤ 1000000 := by decide) (ha : a.natAbs < 2 ^ 64 := by decide) : W c (binaryOp .Pow (.int a t) (.int n u)) m H P :=
  fun s I => pow_int_small hn hn2 ha ⟨_, _, I.tk _, h _⟩
theorem smallDiv {a b : Int} (hb : b.natAbs < 2 ^ 64) : Builtin.divisionGoesByPylong a b = false := by
  unfold Builtin.divisionGoesByPylong
  have : (if (b == 0) = true then 0 else b.natAbs.log2 / 30 + 1) ≤ 300 := by
    split
    · omega
    · have : b.natAbs.log2 < 64 := (Nat.log2_lt (by simpa using ‹¬ (b == 0) = true›)).mpr hb
      omega
  simp only [Bool.and_eq_false_iff, decide_eq_false_iff_not]
  exact .inl (by omega)
theorem V_fdiv {a b : Int} {t u : Tok} {P : Value → Mp → Led → Prop} (hb : b ≠ 0) (hs : b.natAbs < 2 ^ 64) (h : ∀ k, P (.int (a.fdiv b) k) m H) : W c (binaryOp .FloorDiv (.int a t) (.int b u)) m H P := V_div hb (smallDiv hs) h
theorem V_mulL {a b : Int} {t u : Tok} {P : Value → Mp → Led → Prop} (h : ∀ k, P (.int (a * b) k) m H) (ha : -(2 ^ 63) ≤ a ∧ a ≤ 2 ^ 63) : W c (binaryOp .Mult (.int a t) (.int b u)) m H P := V_mul h (.of_left (intBits_le (by omega)))
theorem V_mulR {a b : Int} {t u : Tok} {P : Value → Mp → Led → Prop} (h : ∀ k, P (.int (a * b) k) m H) (ha : -(2 ^ 63) ≤ b ∧ b ≤ 2 ^ 63) : W c (binaryOp .Mult (.int a t) (.int b u)) m H P := V_mul h (.of_right (intBits_le (by omega)))
-- statements
theorem S_expr {e : Expr} {pos : Pos} {P : Flow → Mp → Led → Prop} (h : W c (eval e c.env) m H fun _ m₁ H₁ => P .next m₁ H₁) (hi : interactive c.env = false := by rfl) (hs : swapsWith e none pos.line c.env = pure false := by rfl) :
    W c (exec (.Expr e pos) c.env) m H P := fun s I => wpAny_Expr_any (W_use h I fun _ _ _ _ I₁ h₁ => ⟨_, _, I₁, h₁⟩) hi hs
theorem S_assignA {o : Expr} {attr : Str} {pos' pos : Pos} {value : Expr} {P : Flow → Mp → Led → Prop}
    (h : W c (eval value c.env) m H fun v m₁ H₁ => W c (eval o c.env) m₁ H₁ fun ov m₂ H₂ => W c (setAttr ov attr v) m₂ H₂ fun _ m₃ H₃ => P .next m₃ H₃)
    (hs : swapsWith value (some (.Attribute o attr pos')) pos.line c.env = pure false := by rfl) : W c (exec (.Assign [.Attribute o attr pos'] value pos) c.env) m H P :=
  fun s I => plainObj_wpAny_Assign_Attribute (W_use h I fun _ _ _ _ I₁ h₁ => W_use h₁ I₁ fun _ _ _ _ I₂ h₂ => W_use h₂ I₂ fun _ _ _ _ I₃ h₃ => ⟨_, _, I₃, h₃⟩) hs
theorem S_augA {o value : Expr} {attr : Str} {tpos pos : Pos} {op : Operator} {P : Flow → Mp → Led → Prop}
    (h : W c (eval o c.env) m H fun ov m₁ H₁ => W c (getAttr ov attr true) m₁ H₁ fun old m₂ H₂ => W c (eval value c.env) m₂ H₂ fun v m₃ H₃ => W c (inplaceOp op old v) m₃ H₃ fun new m₄ H₄ =>
      W c (setAttr ov attr new) m₄ H₄ fun _ m₅ H₅ => P .next m₅ H₅) : W c (exec (.AugAssign (.Attribute o attr tpos) op value pos) c.env) m H P :=
  fun s I => wpAny_AugAssign_AttributeAny (W_use h I fun _ _ _ _ I₁ h₁ => W_use h₁ I₁ fun _ _ _ _ I₂ h₂ => W_use h₂ I₂ fun _ _ _ _ I₃ h₃ => W_use h₃ I₃ fun _ _ _ _ I₄ h₄ => W_use h₄ I₄ fun _ _ _ _ I₅ h₅ => ⟨_, _, I₅, h₅⟩)
theorem S_augS {o i value : Expr} {tpos pos : Pos} {op : Operator} {P : Flow → Mp → Led → Prop}
    (h : W c (eval o c.env) m H fun ov m₁ H₁ => W c (eval i c.env) m₁ H₁ fun iv m₂ H₂ => W c (getItem ov iv) m₂ H₂ fun old m₃ H₃ => W c (eval value c.env) m₃ H₃ fun v m₄ H₄ => W c (inplaceOp op old v) m₄ H₄ fun new m₅ H₅ =>
      W c (setItem ov iv new) m₅ H₅ fun _ m₆ H₆ => P .next m₆ H₆) (hi : ∀ ov iv new, augStore i ov iv new = (do holding [new, ov, iv] (setItem ov iv new); release [new, ov, iv] []; pure .next) := by intros; rfl) :
    W c (exec (.AugAssign (.Subscript o i tpos) op value pos) c.env) m H P :=
  fun s I => wpAny_AugAssign_SubscriptAny (W_use h I fun _ _ _ _ I₁ h₁ => W_use h₁ I₁ fun _ _ _ _ I₂ h₂ => W_use h₂ I₂ fun _ _ _ _ I₃ h₃ => W_use h₃ I₃ fun _ _ _ _ I₄ h₄ => W_use h₄ I₄ fun _ _ _ _ I₅ h₅ => W_use h₅ I₅ fun _ _ _ _ I₆ h₆ => ⟨_, _, I₆, h₆⟩) hi
theorem S_assignS {o i value : Expr} {pos' pos : Pos} {P : Flow → Mp → Led → Prop}
    (h : W c (eval value c.env) m H fun v m₁ H₁ => W c (eval o c.env) m₁ H₁ fun ov m₂ H₂ => W c (eval i c.env) m₂ H₂ fun iv m₃ H₃ => W c (setItem ov iv v) m₃ H₃ fun _ m₄ H₄ => P .next m₄ H₄)
    (hs : swapsWith value (some (.Subscript o i pos')) pos.line c.env = pure false := by rfl) : W c (exec (.Assign [.Subscript o i pos'] value pos) c.env) m H P :=
  fun s I => wpAny_Assign_Subscript (W_use h I fun _ _ _ _ I₁ h₁ => W_use h₁ I₁ fun _ _ _ _ I₂ h₂ => W_use h₂ I₂ fun _ _ _ _ I₃ h₃ => W_use h₃ I₃ fun _ _ _ _ I₄ h₄ => ⟨_, _, I₄, h₄⟩) hs
theorem S_assignT {elts : List Expr} {k : Nat} {tpos pos : Pos} {value : Expr} {P : Flow → Mp → Led → Prop} (h : W c (eval value c.env) m H fun v m₁ H₁ => W c (assign (.Tuple elts k tpos) c.env v) m₁ H₁ fun _ m₂ H₂ => P .next m₂ H₂)
    (hs : swapsWithSole [.Tuple elts k tpos] value pos.line c.env = pure false) (hw : swappedStores [.Tuple elts k tpos] value c.env = pure none) : W c (exec (.Assign [.Tuple elts k tpos] value pos) c.env) m H P :=
  fun s I => PyProof.Rows.Assign_Tuple (W_use h I fun _ _ _ _ I₁ h₁ => W_use h₁ I₁ fun _ _ _ _ I₂ h₂ => ⟨_, _, I₂, h₂⟩) hs hw
theorem S_assignTs {elts : List Expr} {k : Nat} {tpos pos : Pos} {value : Expr} {names : List Str} {P : Flow → Mp → Led → Prop} (h : W c (eval value c.env) m H fun v m₁ H₁ => W c (unpackItems v names.length none) m₁ H₁ fun items m₂ H₂ =>
      W c (assignInOrder (names.reverse.map fun n => bindName c.env n) items.reverse) m₂ H₂ fun _ m₃ H₃ => P .next m₃ H₃)
    (hs : swapsWithSole [.Tuple elts k tpos] value pos.line c.env = pure false) (hw : swappedStores [.Tuple elts k tpos] value c.env = pure (some names)) : W c (exec (.Assign [.Tuple elts k tpos] value pos) c.env) m H P :=
  fun s I => PyProof.Rows.Assign_Tuple_swapped (W_use h I fun _ _ _ _ I₁ h₁ => W_use h₁ I₁ fun _ _ _ _ I₂ h₂ => W_use h₂ I₂ fun _ _ _ _ I₃ h₃ => ⟨_, _, I₃, h₃⟩) hs hw
theorem U_tup {t : Addr} {o : Obj} {vs : List Value} {n : Nat} {P : List Value → Mp → Led → Prop} (hh : Hn c) (hm : (t, o) ∈ H) (ht : IsT o vs) (hn : n = vs.length) (h : P vs m H) : W c (unpackItems (.ref t) n none) m H P := fun s I => by
  have e : n = vs.toArray.size := by simpa using hn
  subst e
  exact unpackItems_tuple hh (I.tup hm ht) fun h' he => ⟨_, _, I.keeps fun b o q => he b o (Nat.ne_of_lt (Heap.lt_size q)) q, h⟩
theorem A_tup {elts : List Expr} {k : Nat} {pos : Pos} {t : Addr} {o : Obj} {vs : List Value} {P : Unit → Mp → Led → Prop} (hh : Hn c) (hm : (t, o) ∈ H) (ht : IsT o vs) (hn : elts.length = vs.length)
    (h : W c (assignInOrder ((assignEach elts c.env).map (·.2)) vs) m H P) (hl : (assignEach elts c.env).length = elts.length := by rfl) (hstar : (assignEach elts c.env).findIdx? (·.1) = none := by rfl) : W c (assign (.Tuple elts k pos) c.env (.ref t)) m H P := fun s I =>
  assign_Tuple_tuple hh (I.tup hm ht) (by rw [hl, hn]; simp) hstar fun h' he => h _ (I.keeps (tk := s.toks) fun b o q => he b o (Nat.ne_of_lt (Heap.lt_size q)) q)
theorem O_nil {xs : List Value} {P : Unit → Mp → Led → Prop} (h : P () m H) : W c (assignInOrder [] xs) m H P := fun s I => assignInOrder_nil ⟨_, _, I, h⟩
theorem O_cons {t : Value → Sem Unit} {ts : List (Value → Sem Unit)} {x : Value} {xs : List Value} {P : Unit → Mp → Led → Prop} (h : W c (t x) m H fun _ m₁ H₁ => W c (assignInOrder ts xs) m₁ H₁ P) : W c (assignInOrder (t :: ts) (x :: xs)) m H P :=
  fun s I => assignInOrder_cons (W_use h I fun _ _ _ _ I₁ h₁ => h₁ _ I₁)
theorem O_bind {x : Str} {v : Value} {P : Unit → Mp → Led → Prop} (h : W c (storeName c.env x v) m H P) : W c (bindName c.env x v) m H P := fun s I => PyProof.Rows.bindName_ (h s I)
theorem W_assignA {o : Expr} {attr : Str} {pos : Pos} {v : Value} {P : Unit → Mp → Led → Prop} (h : W c (eval o c.env) m H fun ov m₁ H₁ => W c (setAttr ov attr v) m₁ H₁ P) : W c (assign (.Attribute o attr pos) c.env v) m H P := fun s I => by
  rw [assign_Attribute]
  exact wpAny_bind (wpAny_holding (W_use h I fun ov _ _ _ I₁ h₁ => wpAny_bind (wpAny_standAt (wpAny_bind (wpAny_holding (W_use h₁ I₁ fun _ _ _ _ I₂ h₂ => wpAny_release ⟨_, _, I₂, h₂⟩))))))
theorem S_expr' {e : Expr} {pos : Pos} {P : Flow → Mp → Led → Prop} (f : Fn c sc) (h : W c (eval e c.env) m H fun _ m₁ H₁ => P .next m₁ H₁) (hs : swapsWith e none pos.line c.env = pure false) :
    W c (exec (.Expr e pos) c.env) m H P := S_expr h (by unfold interactive; rw [f.scope, f.kind]; rfl) hs
-- builtins
theorem B_abs {a : Int} {t : Tok} {P : Value → Mp → Led → Prop} (h : ∀ u, P (.int (if a < 0 then -a else a) u) m H) : W c (call (.builtin "abs") ([] ++ [.int a t])) m H P := fun s I => call_abs_int fun u tk => ⟨_, _, I.tk _, h u⟩
theorem B_intb {b : Bool} {P : Value → Mp → Led → Prop} (h : ∀ u, P (.int (if b then 1 else 0) u) m H) : W c (call (.type "int") ([] ++ [.bool b])) m H P := fun s I => call_int_bool ⟨_, _, I.tk _, h _⟩
theorem B_len {a : Addr} {o : Obj} {vs : List Value} {P : Value → Mp → Led → Prop} (hm : (a, o) ∈ H) (hl : IsL o vs) (hz : vs.length < 2 ^ 62) (h : ∀ u, P (.int vs.length u) m H) : W c (call (.builtin "len") ([] ++ [.ref a])) m H P := fun s I =>
  PyProof.Rows.len_list (I.lst hm hl) (by simp; omega) ⟨_, _, I.tk _, by simpa using h (s.toks + 1)⟩
theorem B_max {a b : Int} {t u : Tok} {P : Value → Mp → Led → Prop} (hh : Hn c) (h : ∀ k, P (.int (max a b) k) m H) : W c (call (.builtin "max") ([] ++ [.int a t, .int b u])) m H P := fun s I =>
  PySem.Flt.max_two_num hh (.int _ _) (.int _ _) fun h' tk hk => ⟨_, _, I.keeps hk, by
    by_cases hab : a < b
    · rw [show PySem.Flt.ltV (.int a t) (.int b u) = true from decide_eq_true hab, if_pos rfl]
      have := h u; rwa [Int.max_eq_right (Int.le_of_lt hab)] at this
    · rw [show PySem.Flt.ltV (.int a t) (.int b u) = false from decide_eq_false hab, if_neg (by decide)]
      have := h t; rwa [Int.max_eq_left (Int.not_lt.mp hab)] at this⟩
theorem B_sum {a : Addr} {o : Obj} {vs : List Value} {ns : List Int} {P : Value → Mp → Led → Prop} (hh : Hn c) (hm : (a, o) ∈ H) (hl : IsL o vs) (hi : IntsAre vs ns) (h : ∀ u, P (.int ns.sum u) m H) : W c (call (.builtin "sum") ([] ++ [.ref a])) m H P := fun s I => by
  obtain ⟨xs, hx⟩ := hi.allInts.items
  have hl' : s.heap.IsList a (intItems xs) := hx ▸ I.lst hm hl
  refine sum_intListG hh hl' fun h' tk t' hk => ?_
  have e1 : ns = xs.toList.map (·.1) := by
    rw [← nums_intItems, ← hx]
    exact (show numsOf vs.toArray.toList = ns from hi.numsOf).symm
  have e2 : preSum (numAt xs) xs.size = ns.sum := by
    rw [preSum_eq, List.take_of_length_le (by simp), e1]
  rw [e2]
  exact ⟨_, _, I.keeps hk, h t'⟩
theorem B_tupleL {a : Addr} {o : Obj} {vs : List Value} {P : Value → Mp → Led → Prop} (hm : (a, o) ∈ H) (hl : IsL o vs) (hz : vs.length ≤ sizeLine) (h : ∀ b, (∀ p ∈ H, p.1 ≠ b) → P (.ref b) m ((b, tupOf vs) :: H)) :
    W c (call (.type "tuple") ([] ++ [.ref a])) m H P := fun s I => call_tuple_list (I.lst hm hl) (fun h' hk => by
    have I' := I.keeps (tk := s.toks) hk
    exact ⟨_, _, I'.push _, h _ I'.fresh⟩) (by simpa using hz)
theorem B_listL {a : Addr} {o : Obj} {vs : List Value} {P : Value → Mp → Led → Prop} (hm : (a, o) ∈ H) (hl : IsL o vs) (hz : vs.length ≤ sizeLine) (h : ∀ b ob, PlL ob vs → (∀ p ∈ H, p.1 ≠ b) → P (.ref b) m ((b, ob) :: H)) :
    W c (call (.type "list") ([] ++ [.ref a])) m H P := fun s I => by
  refine list_copyK I.F I.N (I.lst hm hl) (fun D e h' F' N' lt => ?_) (by simpa using hz)
  refine ⟨m, (D, listOf vs.toArray e) :: H, ⟨I.gens, I.drawn, I.os, ⟨_, F', I.kn⟩, N', fun p hp q hq => ?_⟩, h _ _ ⟨_, rfl⟩ fun p hp => Nat.ne_of_lt (lt p (List.mem_append_left _ hp))⟩
  rcases List.mem_cons.mp hp with rfl | hp
  · exact Nat.ne_of_gt (lt q (List.mem_append_right _ hq))
  · exact I.ap p hp q hq
theorem V_addL {a b : Addr} {oa ob : Obj} {vs ws : List Value} {P : Value → Mp → Led → Prop} (ha : (a, oa) ∈ H) (la : IsL oa vs) (hb : (b, ob) ∈ H) (lb : IsL ob ws) (hz : vs.length + ws.length ≤ sizeLine)
    (h : ∀ d, (∀ p ∈ H, p.1 ≠ d) → P (.ref d) m ((d, listOf (vs ++ ws).toArray 0) :: H)) : W c (binaryOp .Add (.ref a) (.ref b)) m H P := fun s I => by
  refine add_lists I.F I.N (I.lst ha la) (I.lst hb lb) (fun h' F' N' => ?_) hz
  refine ⟨m, (s.heap.objs.size, listOf (vs ++ ws).toArray 0) :: H, ⟨I.gens, I.drawn, I.os, ⟨_, F', I.kn⟩, N', fun p hp q hq => ?_⟩, h _ I.fresh⟩
  rcases List.mem_cons.mp hp with rfl | hp
  · exact Nat.ne_of_gt (I.lt q (List.mem_append_right _ hq))
  · exact I.ap p hp q hq
theorem V_addT {a b : Addr} {oa ob : Obj} {vs ws : List Value} {P : Value → Mp → Led → Prop} (ha : (a, oa) ∈ H) (la : IsT oa vs) (hb : (b, ob) ∈ H) (lb : IsT ob ws) (hv : vs ≠ []) (hw : ws ≠ []) (hz : vs.length + ws.length ≤ sizeLine)
    (h : ∀ d, (∀ p ∈ H, p.1 ≠ d) → P (.ref d) m ((d, tupOf (vs ++ ws)) :: H)) : W c (binaryOp .Add (.ref a) (.ref b)) m H P := fun s I => by
  refine add_tuples I.F I.N (I.tup ha la) (I.tup hb lb) (fun q => absurd q hv) (fun _ q => absurd q hw) (fun _ _ h' F' N' => ?_) hz
  refine ⟨m, (s.heap.objs.size, tupOf (vs ++ ws)) :: H, ⟨I.gens, I.drawn, I.os, ⟨_, F', I.kn⟩, N', fun p hp q hq => ?_⟩, h _ I.fresh⟩
  rcases List.mem_cons.mp hp with rfl | hp
  · exact Nat.ne_of_gt (I.lt q (List.mem_append_right _ hq))
  · exact I.ap p hp q hq
end

-- MSeq
section
variable {c : Cfg} {m : Mp} {H : Led} {sc : Scope} {s : Shared}
noncomputable def LstAt (c : Cfg) (H : Led) (a : Addr) (vs : List Value) : Prop := (∃ o, (a, o) ∈ H ∧ IsL o vs) ∨ c.h₀.IsList a vs.toArray
theorem LstAt.here {a : Addr} {vs : List Value} (h : LstAt c H a vs) (I : Inv c m H s) : s.heap.IsList a vs.toArray := by
  rcases h with ⟨o, h1, h2⟩ | h
  · exact I.lst h1 h2
  · exact h.at fun o e => I.F.keep _ _ e
theorem W_sliceTo {value e : Expr} {p pos : Pos} {P : Value → Mp → Led → Prop}
    (h : W c (eval value c.env) m H fun o m₁ H₁ => W c (eval e c.env) m₁ H₁ fun vu m₂ H₂ => ∃ (a : Addr) (vs : List Value) (k : Nat) (t : Tok), o = .ref a ∧ LstAt c H₂ a vs ∧ vs.length ≤ sizeLine ∧ vu = .int k t ∧
      ∀ b, (∀ p ∈ H₂, p.1 ≠ b) → P (.ref b) m₂ ((b, listOf (vs.take k).toArray 0) :: H₂))
    (ht : ∀ o r, letTemporaryGo value o r = pure () := by intro _ _; rfl) : W c (eval (.Subscript value (.Slice none (some e) none p) pos) c.env) m H P := fun s I => by
  refine wpAny_Subscript_list_slice (W_use h I fun o s₁ m₁ H₁ I₁ h₁ => ?_) ht
  rw [evalPart_none]
  refine wpAny_pure ?_
  rw [evalPart_some]
  refine W_use h₁ I₁ fun vu s₂ m₂ H₂ I₂ h₂ => ?_
  obtain ⟨a, vs, k, t, rfl, hl, hz, rfl, hp⟩ := h₂
  refine ⟨a, vs.toArray, none, some (k : Int), rfl, hl.here I₂, by simpa using hz, .none, .int _ _, ?_⟩
  rw [slicePick_upto']
  have I₃ : Inv c m₂ H₂ { s₂ with heap := s₂.heap.push { cls := .type "slice", data := .fields #[.none, .int k t, .none] } } := I₂.keeps (tk := s₂.toks) fun b o e => Heap.get?_push_of_some _ e
  have I₄ := I₃.push (listOf (vs.take k).toArray 0) (tk := s₂.toks)
  have e4 : (s₂.heap.push { cls := .type "slice", data := .fields #[.none, .int k t, .none] }).objs.size = s₂.heap.objs.size + 1 := Heap.size_push ..
  have := hp _ I₃.fresh
  dsimp only at I₄ this
  rw [e4] at I₄ this
  exact ⟨_, _, I₄, this⟩
theorem W_sliceFrom {value e : Expr} {p pos : Pos} {P : Value → Mp → Led → Prop}
    (h : W c (eval value c.env) m H fun o m₁ H₁ => W c (eval e c.env) m₁ H₁ fun vu m₂ H₂ => ∃ (a : Addr) (vs : List Value) (k : Nat) (t : Tok), o = .ref a ∧ LstAt c H₂ a vs ∧ vs.length ≤ sizeLine ∧ vu = .int k t ∧
      ∀ b, (∀ p ∈ H₂, p.1 ≠ b) → P (.ref b) m₂ ((b, listOf (vs.drop k).toArray 0) :: H₂))
    (ht : ∀ o r, letTemporaryGo value o r = pure () := by intro _ _; rfl) : W c (eval (.Subscript value (.Slice (some e) none none p) pos) c.env) m H P := fun s I => by
  refine wpAny_Subscript_list_slice (W_use h I fun o s₁ m₁ H₁ I₁ h₁ => ?_) ht
  rw [evalPart_some]
  refine W_use h₁ I₁ fun vu s₂ m₂ H₂ I₂ h₂ => ?_
  rw [evalPart_none]
  refine wpAny_pure ?_
  obtain ⟨a, vs, k, t, rfl, hl, hz, rfl, hp⟩ := h₂
  refine ⟨a, vs.toArray, some (k : Int), none, rfl, hl.here I₂, by simpa using hz, .int _ _, .none, ?_⟩
  rw [slicePick_from']
  have I₃ : Inv c m₂ H₂ { s₂ with heap := s₂.heap.push { cls := .type "slice", data := .fields #[.int k t, .none, .none] } } := I₂.keeps (tk := s₂.toks) fun b o e => Heap.get?_push_of_some _ e
  have I₄ := I₃.push (listOf (vs.drop k).toArray 0) (tk := s₂.toks)
  have e4 : (s₂.heap.push { cls := .type "slice", data := .fields #[.int k t, .none, .none] }).objs.size = s₂.heap.objs.size + 1 := Heap.size_push ..
  have := hp _ I₃.fresh
  dsimp only at I₄ this
  rw [e4] at I₄ this
  exact ⟨_, _, I₄, this⟩
-- data
/-- a value reads as a datum, by the ledger alone -/
noncomputable def Rd (H : Led) (v : Value) (d : PyData) : Prop := ∀ h : Heap, (∀ p ∈ H, h.get? p.1 = some p.2) → ∃ as, Reads h v d as
theorem Rd.mono {H H' : Led} {v : Value} {d : PyData} (r : Rd H v d) (h : ∀ p ∈ H, p ∈ H') : Rd H' v d := fun hp k => r hp fun p q => k p (h p q)
theorem Rd.int {i : Int} {t : Tok} : Rd H (.int i t) (.int i) := fun _ _ => ⟨_, .int _ _⟩
theorem Rd.none : Rd H .none .none := fun _ _ => ⟨_, .none⟩
inductive Rds (H : Led) : List Value → List PyData → Prop
  | nil : Rds H [] []
  | cons {v vs d ds} : Rd H v d → Rds H vs ds → Rds H (v :: vs) (d :: ds)
theorem Rds.all {H : Led} : ∀ {vs ds}, Rds H vs ds → ∀ h : Heap, (∀ p ∈ H, h.get? p.1 = some p.2) → ∃ as, ReadsAll h vs ds as
  | _, _, .nil, _, _ => ⟨_, .nil⟩
  | _, _, .cons a b, h, k => by
    obtain ⟨x, hx⟩ := a h k
    obtain ⟨y, hy⟩ := Rds.all b h k
    exact ⟨_, .cons hx hy⟩
theorem Rds.mono {H H' : Led} (h : ∀ p ∈ H, p ∈ H') : ∀ {vs ds}, Rds H vs ds → Rds H' vs ds
  | _, _, .nil => .nil
  | _, _, .cons a b => .cons (a.mono h) (Rds.mono h b)
theorem Rds.append {H : Led} : ∀ {vs ds ws es}, Rds H vs ds → Rds H ws es → Rds H (vs ++ ws) (ds ++ es)
  | _, _, _, _, .nil, h => h
  | _, _, _, _, .cons a b, h => .cons a (Rds.append b h)
theorem Rds.length {H : Led} : ∀ {vs ds}, Rds H vs ds → vs.length = ds.length
  | _, _, .nil => rfl
  | _, _, .cons _ b => by simp [Rds.length b]
theorem Rd.tuple {t : Addr} {o : Obj} {vs : List Value} {ds : List PyData} (hm : (t, o) ∈ H) (ho : IsT o vs) (h : Rds H vs ds) : Rd H (.ref t) (.tuple ds) := fun hp k => by
  obtain ⟨n, hn⟩ := ho.2
  obtain ⟨as, ha⟩ := h.all hp k
  exact ⟨_, .tuple (k _ hm) ho.1 hn (by simpa using ha)⟩
theorem Rd.list {t : Addr} {o : Obj} {vs : List Value} {ds : List PyData} (hm : (t, o) ∈ H) (ho : IsL o vs) (h : Rds H vs ds) : Rd H (.ref t) (.list ds) := fun hp k => by
  obtain ⟨n, hn⟩ := ho.2
  obtain ⟨as, ha⟩ := h.all hp k
  exact ⟨_, .list (k _ hm) ho.1 hn (by simpa using ha)⟩
theorem V_eqD {a b : Value} {da db : PyData} {P : Value → Mp → Led → Prop} (ra : Rd H a da) (rb : Rd H b db) (sa : SeqAt.shaped da = true) (sb : SeqAt.shaped db = true) (hu : c.A.units + 64 < cLine) (h : P (.bool (PyData.eqv da db)) m H) :
    W c (compareOp .Eq a b) m H P := fun s I => by
  obtain ⟨as, ha⟩ := ra s.heap fun p hp => I.at_ hp
  obtain ⟨bs, hb⟩ := rb s.heap fun p hp => I.at_ hp
  exact eq_dataH ha hb sa sb hu ⟨_, _, I, h⟩
theorem V_neD {a b : Value} {da db : PyData} {P : Value → Mp → Led → Prop} (ra : Rd H a da) (rb : Rd H b db) (sa : SeqAt.shaped da = true) (sb : SeqAt.shaped db = true) (hu : c.A.units + 64 < cLine) (h : P (.bool (!PyData.eqv da db)) m H) :
    W c (compareOp .NotEq a b) m H P := fun s I => by
  obtain ⟨as, ha⟩ := ra s.heap fun p hp => I.at_ hp
  obtain ⟨bs, hb⟩ := rb s.heap fun p hp => I.at_ hp
  exact ne_dataH ha hb sa sb hu ⟨_, _, I, h⟩
mutual
/-- ints, None, tuples and lists alone, no deeper than n -/
noncomputable def okD : Nat → PyData → Bool
  | _, .int _ => true
  | _, .none => true
  | n + 1, .tuple ds => okDs n ds
  | n + 1, .list ds => okDs n ds
  | _, _ => false
noncomputable def okDs : Nat → List PyData → Bool
  | _, [] => true
  | n, d :: ds => okD n d && okDs n ds
end
theorem okD_depth : ∀ (n : Nat) (d : PyData), okD n d = true → d.depth ≤ n ∧ d.canLay0 = true ∧ PyData.eqv d d = true := by
  have all : ∀ n, (∀ d, okD n d = true → d.depth ≤ n ∧ d.canLay0 = true ∧ PyData.eqv d d = true) → ∀ ds, okDs n ds = true → PyData.depthAll ds ≤ n ∧ PyData.canLayAll0 ds = true ∧ PyData.eqvAll ds ds = true := by
    intro n ih ds
    induction ds with
    | nil => intro _; exact ⟨Nat.zero_le _, rfl, rfl⟩
    | cons d ds hi =>
      intro h
      simp only [okDs, Bool.and_eq_true] at h
      obtain ⟨a1, a2, a3⟩ := ih d h.1
      obtain ⟨b1, b2, b3⟩ := hi h.2
      exact ⟨by simp only [PyData.depthAll]; omega, by simp only [PyData.canLayAll0, a2, b2, Bool.and_self], by simp only [PyData.eqvAll, a3, b3, Bool.and_self]⟩
  intro n
  induction n with
  | zero => intro d h; cases d <;> simp_all [okD, PyData.depth, PyData.canLay0, PyData.eqv]
  | succ n ih =>
    intro d h
    cases d with
    | tuple ds =>
      obtain ⟨a1, a2, a3⟩ := all n ih ds (by simpa [okD] using h)
      exact ⟨by simp only [PyData.depth]; omega, by simpa only [PyData.canLay0] using a2, by simpa only [PyData.eqv] using a3⟩
    | list ds =>
      obtain ⟨a1, a2, a3⟩ := all n ih ds (by simpa [okD] using h)
      exact ⟨by simp only [PyData.depth]; omega, by simpa only [PyData.canLay0] using a2, by simpa only [PyData.eqv] using a3⟩
    | _ => simp_all [okD, PyData.depth, PyData.canLay0, PyData.eqv]
theorem okD_shaped {d : PyData} (h : okD 8 d = true) : SeqAt.shaped d = true := by
  obtain ⟨a, b, _⟩ := okD_depth 8 d h
  unfold SeqAt.shaped
  rw [b, Bool.true_and]
  exact decide_eq_true (Nat.le_trans a (by decide))
theorem V_eqSame {a b : Value} {d : PyData} {P : Value → Mp → Led → Prop} (ra : Rd H a d) (rb : Rd H b d) (hd : okD 8 d = true) (hu : c.A.units + 64 < cLine) (h : P (.bool true) m H) : W c (compareOp .Eq a b) m H P :=
  V_eqD ra rb (okD_shaped hd) (okD_shaped hd) hu (by rw [(okD_depth 8 d hd).2.2]; exact h)
theorem V_neSame {a b : Value} {d : PyData} {P : Value → Mp → Led → Prop} (ra : Rd H a d) (rb : Rd H b d) (hd : okD 8 d = true) (hu : c.A.units + 64 < cLine) (h : P (.bool false) m H) : W c (compareOp .NotEq a b) m H P :=
  V_neD ra rb (okD_shaped hd) (okD_shaped hd) hu (by rw [(okD_depth 8 d hd).2.2]; exact h)
-- a loop over a range
inductive ForGoR (c : Cfg) (target : Expr) (body : List Stmt) (P : Flow → Mp → Led → Prop) (xv : Value) (m : Mp) (H : Led) : Prop
  | mk (r : Addr) (n : Nat) (t u v : Tok) (J : Nat → Mp → Led → Prop) (e : xv = .ref r) (hr : (r, ({ cls := .type "range", data := .fields #[.int 0 t, .int n u, .int 1 v] } : Obj)) ∈ H) (hn : n < 2 ^ 60) (j0 : J 0 m H)
    (step : ∀ (i : Nat) m' H' c' t, i < n → J i m' H' → Like c c' → W c' (assign target c'.env (.int i t)) m' H' fun _ m₂ H₂ => W c' (execs body c'.env) m₂ H₂ (Loop (J (i + 1)) P))
    (done : ∀ m' H', J n m' H' → P .next m' H') : ForGoR c target body P xv m H
theorem B_range {n : Int} {t : Tok} {P : Value → Mp → Led → Prop} (h : ∀ r u v, (∀ p ∈ H, p.1 ≠ r) → P (.ref r) m ((r, ({ cls := .type "range", data := .fields #[.int 0 u, .int n t, .int 1 v] } : Obj)) :: H)) :
    W c (call (.type "range") ([] ++ [.int n t])) m H P := fun s I => call_range_1 ⟨_, _, I.push _, h _ _ _ I.fresh⟩
theorem W_forR {x : Str} {px : Pos} {iter : Expr} {body : List Stmt} {pos : Pos} {P : Flow → Mp → Led → Prop} (hh : Hn c) (h : W c (eval iter c.env) m H (ForGoR c (.Name x px) body P))
    (hs : ∀ x, foldedSetIterable iter c.env x = pure x := by intro _; rfl) : W c (exec (.For (.Name x px) iter body [] pos) c.env) m H P := fun s I => by
  refine wpAny_For (W_use h I fun xv s₁ m₁ H₁ I₁ g => ?_) hs
  obtain ⟨r, n, t, u, v, J, rfl, hr, hn, j0, step, done⟩ := g
  refine wpAny_pyIter_range (I₁.at_ hr) (small_one (by decide) (by decide) (by omega) (by omega)) ?_
  have e1 : Builtin.Range.rangeSize 0 n 1 = n := by rw [rangeSize_one]; split <;> omega
  rw [e1]
  have Ip := I₁.push { cls := .type "range_iterator", data := .fields #[rawInt 0, rawInt n, rawInt 1] } (tk := s₁.toks)
  have I0 : Inv (within c [(s₁.heap.objs.size, { cls := .type "range_iterator", data := .fields #[rawInt 0, rawInt n, rawInt 1] })] c.E) m₁ H₁ { s₁ with heap := s₁.heap.push { cls := .type "range_iterator", data := .fields #[rawInt 0, rawInt n, rawInt 1] } } :=
    ⟨Ip.gens, Ip.drawn, Ip.os, Ip.Fx, fun p hp => Ip.N p (by
      rcases List.mem_append.mp hp with q | q
      · exact List.mem_append_left _ (.tail _ q)
      · rcases List.mem_cons.mp q with rfl | q
        · exact List.mem_append_left _ (.head _)
        · exact List.mem_append_right _ q), fun p hp q hq => by
      rcases List.mem_cons.mp hq with rfl | hq
      · exact I₁.fresh p hp
      · exact I₁.ap p hp q hq⟩
  refine forW (n := n) (Walks.range hh s₁.heap.objs.size 0 1 n) I0 (fun p hp => Nat.ne_of_lt (I₁.lt p (List.mem_append_right _ hp))) (by simpa using Heap.get?_push_size s₁.heap rfl) (fun i h st => ⟨_, st⟩) (fun b hb => .inl (by simpa using hb)) j0 ?_ done
  intro i m' H' c' v' hi hv hj lk hst
  obtain ⟨tk, rfl⟩ := hv
  have e2 : (0 : Int) + (i : Int) * 1 = i := by omega
  rw [e2]
  have w := step i m' H' c' tk hi hj lk
  intro s' J'
  exact wpAny_of_eq (a := ()) rfl ⟨_, _, J', w⟩
end

-- MGlob
theorem g_LINE_SKIP {P : Params} : nsIn (kk P) mainGlobals (Str.ofString "LINE_SKIP") = some (some (.int (0) 194)) := by kernel_rfl
theorem g_BASELINE_SKIP {P : Params} : nsIn (kk P) mainGlobals (Str.ofString "BASELINE_SKIP") = some (some (.int (1) 195)) := by kernel_rfl
theorem g_PAR_SKIP {P : Params} : nsIn (kk P) mainGlobals (Str.ofString "PAR_SKIP") = some (some (.int (2) 196)) := by kernel_rfl
theorem g_ABOVE_DISPLAY_SKIP {P : Params} : nsIn (kk P) mainGlobals (Str.ofString "ABOVE_DISPLAY_SKIP") = some (some (.int (3) 197)) := by kernel_rfl
theorem g_BELOW_DISPLAY_SKIP {P : Params} : nsIn (kk P) mainGlobals (Str.ofString "BELOW_DISPLAY_SKIP") = some (some (.int (4) 198)) := by kernel_rfl
theorem g_LEFT_SKIP {P : Params} : nsIn (kk P) mainGlobals (Str.ofString "LEFT_SKIP") = some (some (.int (5) 199)) := by kernel_rfl
theorem g_RIGHT_SKIP {P : Params} : nsIn (kk P) mainGlobals (Str.ofString "RIGHT_SKIP") = some (some (.int (6) 200)) := by kernel_rfl
theorem g_IGNORE_DEPTH {P : Params} : nsIn (kk P) mainGlobals (Str.ofString "IGNORE_DEPTH") = some (some (.int (-65536000) 209)) := by kernel_rfl
theorem g_PageError {P : Params} : nsIn (kk P) mainGlobals (Str.ofString "PageError") = some (some (.ref 43)) := by kernel_rfl
theorem g_BadArgument {P : Params} : nsIn (kk P) mainGlobals (Str.ofString "BadArgument") = some (some (.ref 56)) := by kernel_rfl
theorem g_Overflow {P : Params} : nsIn (kk P) mainGlobals (Str.ofString "Overflow") = some (some (.ref 68)) := by kernel_rfl
theorem g_TooDeep {P : Params} : nsIn (kk P) mainGlobals (Str.ofString "TooDeep") = some (some (.ref 80)) := by kernel_rfl
theorem g_UNITY {P : Params} : nsIn (kk P) mainGlobals (Str.ofString "UNITY") = some (some (.int (65536) 291)) := by kernel_rfl
theorem g_MAX_DIMEN {P : Params} : nsIn (kk P) mainGlobals (Str.ofString "MAX_DIMEN") = some (some (.int (1073741823) 297)) := by kernel_rfl
theorem g_MAX_NUMBER {P : Params} : nsIn (kk P) mainGlobals (Str.ofString "MAX_NUMBER") = some (some (.int (2147483647) 303)) := by kernel_rfl
theorem g_INF_BAD {P : Params} : nsIn (kk P) mainGlobals (Str.ofString "INF_BAD") = some (some (.int (10000) 305)) := by kernel_rfl
theorem g_NORMAL {P : Params} : nsIn (kk P) mainGlobals (Str.ofString "NORMAL") = some (some (.int (0) 307)) := by kernel_rfl
theorem g_FIL {P : Params} : nsIn (kk P) mainGlobals (Str.ofString "FIL") = some (some (.int (1) 308)) := by kernel_rfl
theorem g_FILL {P : Params} : nsIn (kk P) mainGlobals (Str.ofString "FILL") = some (some (.int (2) 309)) := by kernel_rfl
theorem g_FILLL {P : Params} : nsIn (kk P) mainGlobals (Str.ofString "FILLL") = some (some (.int (3) 310)) := by kernel_rfl
theorem g_is_whole {P : Params} : nsIn (kk P) mainGlobals (Str.ofString "is_whole") = some (some (.ref 93)) := by kernel_rfl
theorem g_check_whole {P : Params} : nsIn (kk P) mainGlobals (Str.ofString "check_whole") = some (some (.ref 100)) := by kernel_rfl
theorem g_check_number {P : Params} : nsIn (kk P) mainGlobals (Str.ofString "check_number") = some (some (.ref 107)) := by kernel_rfl
theorem g_check_dimen {P : Params} : nsIn (kk P) mainGlobals (Str.ofString "check_dimen") = some (some (.ref 114)) := by kernel_rfl
theorem g_rounded {P : Params} : nsIn (kk P) mainGlobals (Str.ofString "rounded") = some (some (.ref 121)) := by kernel_rfl
theorem g_reading {P : Params} : nsIn (kk P) mainGlobals (Str.ofString "reading") = some (some (.ref 128)) := by kernel_rfl
theorem g_decimal_text {P : Params} : nsIn (kk P) mainGlobals (Str.ofString "decimal_text") = some (some (.ref 135)) := by kernel_rfl
theorem g_times {P : Params} : nsIn (kk P) mainGlobals (Str.ofString "times") = some (some (.ref 142)) := by kernel_rfl
theorem g_times_scaled {P : Params} : nsIn (kk P) mainGlobals (Str.ofString "times_scaled") = some (some (.ref 142)) := by kernel_rfl
theorem g_over {P : Params} : nsIn (kk P) mainGlobals (Str.ofString "over") = some (some (.ref 149)) := by kernel_rfl
theorem g_over_scaled {P : Params} : nsIn (kk P) mainGlobals (Str.ofString "over_scaled") = some (some (.ref 149)) := by kernel_rfl
theorem g_badness {P : Params} : nsIn (kk P) mainGlobals (Str.ofString "badness") = some (some (.ref 156)) := by kernel_rfl
theorem g_order_text {P : Params} : nsIn (kk P) mainGlobals (Str.ofString "order_text") = some (some (.ref 163)) := by kernel_rfl
theorem g_part_text {P : Params} : nsIn (kk P) mainGlobals (Str.ofString "part_text") = some (some (.ref 170)) := by kernel_rfl
theorem g_Glue {P : Params} : nsIn (kk P) mainGlobals (Str.ofString "Glue") = some (some (.ref 238)) := by kernel_rfl
theorem g_top_order {P : Params} : nsIn (kk P) mainGlobals (Str.ofString "top_order") = some (some (.ref 249)) := by kernel_rfl
theorem g_Totals {P : Params} : nsIn (kk P) mainGlobals (Str.ofString "Totals") = some (some (.ref 301)) := by kernel_rfl
theorem g_CHAR {P : Params} : nsIn (kk P) mainGlobals (Str.ofString "CHAR") = some (some (.int (0) 599)) := by kernel_rfl
theorem g_LIGATURE {P : Params} : nsIn (kk P) mainGlobals (Str.ofString "LIGATURE") = some (some (.int (1) 600)) := by kernel_rfl
theorem g_HBOX {P : Params} : nsIn (kk P) mainGlobals (Str.ofString "HBOX") = some (some (.int (2) 601)) := by kernel_rfl
theorem g_VBOX {P : Params} : nsIn (kk P) mainGlobals (Str.ofString "VBOX") = some (some (.int (3) 602)) := by kernel_rfl
theorem g_RULE {P : Params} : nsIn (kk P) mainGlobals (Str.ofString "RULE") = some (some (.int (4) 603)) := by kernel_rfl
theorem g_KERN {P : Params} : nsIn (kk P) mainGlobals (Str.ofString "KERN") = some (some (.int (5) 604)) := by kernel_rfl
theorem g_GLUE {P : Params} : nsIn (kk P) mainGlobals (Str.ofString "GLUE") = some (some (.int (6) 605)) := by kernel_rfl
theorem g_PENALTY {P : Params} : nsIn (kk P) mainGlobals (Str.ofString "PENALTY") = some (some (.int (7) 606)) := by kernel_rfl
theorem g_DISC {P : Params} : nsIn (kk P) mainGlobals (Str.ofString "DISC") = some (some (.int (8) 615)) := by kernel_rfl
theorem g_MARK {P : Params} : nsIn (kk P) mainGlobals (Str.ofString "MARK") = some (some (.int (9) 616)) := by kernel_rfl
theorem g_INSERT {P : Params} : nsIn (kk P) mainGlobals (Str.ofString "INSERT") = some (some (.int (10) 617)) := by kernel_rfl
theorem g_ADJUST {P : Params} : nsIn (kk P) mainGlobals (Str.ofString "ADJUST") = some (some (.int (11) 618)) := by kernel_rfl
theorem g_MATH {P : Params} : nsIn (kk P) mainGlobals (Str.ofString "MATH") = some (some (.int (12) 619)) := by kernel_rfl
theorem g_SPECIAL {P : Params} : nsIn (kk P) mainGlobals (Str.ofString "SPECIAL") = some (some (.int (13) 620)) := by kernel_rfl
theorem g_UNSET {P : Params} : nsIn (kk P) mainGlobals (Str.ofString "UNSET") = some (some (.int (14) 621)) := by kernel_rfl
theorem g_NATURAL {P : Params} : nsIn (kk P) mainGlobals (Str.ofString "NATURAL") = some (some (.int (0) 629)) := by kernel_rfl
theorem g_STRETCHED {P : Params} : nsIn (kk P) mainGlobals (Str.ofString "STRETCHED") = some (some (.int (1) 630)) := by kernel_rfl
theorem g_SHRUNK {P : Params} : nsIn (kk P) mainGlobals (Str.ofString "SHRUNK") = some (some (.int (2) 631)) := by kernel_rfl
theorem g_FONT_KERN {P : Params} : nsIn (kk P) mainGlobals (Str.ofString "FONT_KERN") = some (some (.int (0) 635)) := by kernel_rfl
theorem g_EXPLICIT {P : Params} : nsIn (kk P) mainGlobals (Str.ofString "EXPLICIT") = some (some (.int (1) 636)) := by kernel_rfl
theorem g_ACCENT_KERN {P : Params} : nsIn (kk P) mainGlobals (Str.ofString "ACCENT_KERN") = some (some (.int (2) 637)) := by kernel_rfl
theorem g_MU_KERN {P : Params} : nsIn (kk P) mainGlobals (Str.ofString "MU_KERN") = some (some (.int (3) 638)) := by kernel_rfl
theorem g_PLAIN {P : Params} : nsIn (kk P) mainGlobals (Str.ofString "PLAIN") = some (some (.int (0) 643)) := by kernel_rfl
theorem g_ALEADERS {P : Params} : nsIn (kk P) mainGlobals (Str.ofString "ALEADERS") = some (some (.int (1) 644)) := by kernel_rfl
theorem g_CLEADERS {P : Params} : nsIn (kk P) mainGlobals (Str.ofString "CLEADERS") = some (some (.int (2) 645)) := by kernel_rfl
theorem g_XLEADERS {P : Params} : nsIn (kk P) mainGlobals (Str.ofString "XLEADERS") = some (some (.int (3) 646)) := by kernel_rfl
theorem g_MU_SKIP {P : Params} : nsIn (kk P) mainGlobals (Str.ofString "MU_SKIP") = some (some (.int (4) 647)) := by kernel_rfl
theorem g_NONSCRIPT {P : Params} : nsIn (kk P) mainGlobals (Str.ofString "NONSCRIPT") = some (some (.int (5) 648)) := by kernel_rfl
theorem g_NAMED {P : Params} : nsIn (kk P) mainGlobals (Str.ofString "NAMED") = some (some (.int (100) 649)) := by kernel_rfl
theorem g_FOR_DEVICE {P : Params} : nsIn (kk P) mainGlobals (Str.ofString "FOR_DEVICE") = some (some (.int (0) 657)) := by kernel_rfl
theorem g_WRITING {P : Params} : nsIn (kk P) mainGlobals (Str.ofString "WRITING") = some (some (.int (1) 658)) := by kernel_rfl
theorem g_OPENING {P : Params} : nsIn (kk P) mainGlobals (Str.ofString "OPENING") = some (some (.int (2) 659)) := by kernel_rfl
theorem g_CLOSING {P : Params} : nsIn (kk P) mainGlobals (Str.ofString "CLOSING") = some (some (.int (3) 660)) := by kernel_rfl
theorem g_DEEPEST {P : Params} : nsIn (kk P) mainGlobals (Str.ofString "DEEPEST") = some (some (.int (60) 665)) := by kernel_rfl
theorem g_Box {P : Params} : nsIn (kk P) mainGlobals (Str.ofString "Box") = some (some (.ref 346)) := by kernel_rfl
theorem g_Rule {P : Params} : nsIn (kk P) mainGlobals (Str.ofString "Rule") = some (some (.ref 367)) := by kernel_rfl
theorem g_Kern {P : Params} : nsIn (kk P) mainGlobals (Str.ofString "Kern") = some (some (.ref 388)) := by kernel_rfl
theorem g_Skip {P : Params} : nsIn (kk P) mainGlobals (Str.ofString "Skip") = some (some (.ref 410)) := by kernel_rfl
theorem g_Penalty {P : Params} : nsIn (kk P) mainGlobals (Str.ofString "Penalty") = some (some (.ref 431)) := by kernel_rfl
theorem g_check_depth {P : Params} : nsIn (kk P) mainGlobals (Str.ofString "check_depth") = some (some (.ref 442)) := by kernel_rfl
theorem g_described_special {P : Params} : nsIn (kk P) mainGlobals (Str.ofString "described_special") = some (some (.ref 447)) := by kernel_rfl
theorem g_described_rest {P : Params} : nsIn (kk P) mainGlobals (Str.ofString "described_rest") = some (some (.ref 454)) := by kernel_rfl
theorem g_described {P : Params} : nsIn (kk P) mainGlobals (Str.ofString "described") = some (some (.ref 460)) := by kernel_rfl
theorem g_described_list {P : Params} : nsIn (kk P) mainGlobals (Str.ofString "described_list") = some (some (.ref 466)) := by kernel_rfl
theorem g_width_of {P : Params} : nsIn (kk P) mainGlobals (Str.ofString "width_of") = some (some (.ref 471)) := by kernel_rfl
theorem g_height_of {P : Params} : nsIn (kk P) mainGlobals (Str.ofString "height_of") = some (some (.ref 476)) := by kernel_rfl
theorem g_depth_of {P : Params} : nsIn (kk P) mainGlobals (Str.ofString "depth_of") = some (some (.ref 481)) := by kernel_rfl
theorem g_line_height {P : Params} : nsIn (kk P) mainGlobals (Str.ofString "line_height") = some (some (.ref 488)) := by kernel_rfl
theorem g_line_depth {P : Params} : nsIn (kk P) mainGlobals (Str.ofString "line_depth") = some (some (.ref 495)) := by kernel_rfl
theorem g_append_box {P : Params} : nsIn (kk P) mainGlobals (Str.ofString "append_box") = some (some (.ref 502)) := by kernel_rfl
theorem g_EXACTLY {P : Params} : nsIn (kk P) mainGlobals (Str.ofString "EXACTLY") = some (some (.int (0) 928)) := by kernel_rfl
theorem g_SPREAD {P : Params} : nsIn (kk P) mainGlobals (Str.ofString "SPREAD") = some (some (.int (1) 929)) := by kernel_rfl
theorem g_FINE {P : Params} : nsIn (kk P) mainGlobals (Str.ofString "FINE") = some (some (.int (0) 932)) := by kernel_rfl
theorem g_LOOSE {P : Params} : nsIn (kk P) mainGlobals (Str.ofString "LOOSE") = some (some (.int (1) 933)) := by kernel_rfl
theorem g_TIGHT {P : Params} : nsIn (kk P) mainGlobals (Str.ofString "TIGHT") = some (some (.int (2) 934)) := by kernel_rfl
theorem g_OVERFULL {P : Params} : nsIn (kk P) mainGlobals (Str.ofString "OVERFULL") = some (some (.int (3) 935)) := by kernel_rfl
theorem g_across {P : Params} : nsIn (kk P) mainGlobals (Str.ofString "across") = some (some (.ref 517)) := by kernel_rfl
theorem g_check_column {P : Params} : nsIn (kk P) mainGlobals (Str.ofString "check_column") = some (some (.ref 524)) := by kernel_rfl
theorem g_natural_column {P : Params} : nsIn (kk P) mainGlobals (Str.ofString "natural_column") = some (some (.ref 531)) := by kernel_rfl
theorem g_quotient {P : Params} : nsIn (kk P) mainGlobals (Str.ofString "quotient") = some (some (.ref 538)) := by kernel_rfl
theorem g_set_glue {P : Params} : nsIn (kk P) mainGlobals (Str.ofString "set_glue") = some (some (.ref 545)) := by kernel_rfl
theorem g_flex {P : Params} : nsIn (kk P) mainGlobals (Str.ofString "flex") = some (some (.ref 552)) := by kernel_rfl
theorem g_set_part {P : Params} : nsIn (kk P) mainGlobals (Str.ofString "set_part") = some (some (.ref 559)) := by kernel_rfl
theorem g_part_size {P : Params} : nsIn (kk P) mainGlobals (Str.ofString "part_size") = some (some (.ref 566)) := by kernel_rfl
theorem g_places {P : Params} : nsIn (kk P) mainGlobals (Str.ofString "places") = some (some (.ref 573)) := by kernel_rfl
theorem g_goal_size {P : Params} : nsIn (kk P) mainGlobals (Str.ofString "goal_size") = some (some (.ref 580)) := by kernel_rfl
theorem g_set_box {P : Params} : nsIn (kk P) mainGlobals (Str.ofString "set_box") = some (some (.ref 587)) := by kernel_rfl
theorem g_vpack {P : Params} : nsIn (kk P) mainGlobals (Str.ofString "vpack") = some (some (.ref 595)) := by kernel_rfl
theorem g_law_pool {P : Params} : nsIn (kk P) mainGlobals (Str.ofString "_law_pool") = some (some (.ref 602)) := by kernel_rfl
theorem g_law_take {P : Params} : nsIn (kk P) mainGlobals (Str.ofString "_law_take") = some (some (.ref 609)) := by kernel_rfl
theorem g_law_deeds {P : Params} : nsIn (kk P) mainGlobals (Str.ofString "_law_deeds") = some (some (.ref 616)) := by kernel_rfl
theorem g_law_column {P : Params} : nsIn (kk P) mainGlobals (Str.ofString "_law_column") = some (some (.ref 623)) := by kernel_rfl
theorem g_law_rows {P : Params} : nsIn (kk P) mainGlobals (Str.ofString "_law_rows") = some (some (.ref 630)) := by kernel_rfl
theorem g_law_begins {P : Params} : nsIn (kk P) mainGlobals (Str.ofString "_law_begins") = some (some (.ref 635)) := by kernel_rfl
theorem g_law_refused {P : Params} : nsIn (kk P) mainGlobals (Str.ofString "_law_refused") = some (some (.ref 642)) := by kernel_rfl
theorem g_law {P : Params} : nsIn (kk P) mainGlobals (Str.ofString "law") = some (some (.ref 647)) := by kernel_rfl

-- MF1
section
variable {c : Cfg} {m : Mp} {H : Led} {sc : Scope}
theorem isi_int_int {n : Int} {u : Tok} {P : Value → Mp → Led → Prop} (h : P (.bool true) m H) : W c (call (.builtin "isinstance") ([] ++ [.int n u, .type "int"])) m H P := fun s I => IsiPair.int_int ⟨_, _, I, h⟩
theorem isi_int_bool {n : Int} {u : Tok} {P : Value → Mp → Led → Prop} (h : P (.bool false) m H) : W c (call (.builtin "isinstance") ([] ++ [.int n u, .type "bool"])) m H P := fun s I => IsiPair.int_bool ⟨_, _, I.tk _, h⟩
theorem V_notB {b : Bool} {P : Value → Mp → Led → Prop} (h : P (.bool (!b)) m H) : W c (unaryOp .Not (.bool b)) m H P := fun s I => PyProof.Rows.not_of (wpAny_truthy_bool ⟨_, _, I, h⟩)
end

local macro_rules | `(tactic| walk_at "msg") => `(tactic| with_reducible first
      | exact g_LINE_SKIP
      | exact g_BASELINE_SKIP
      | exact g_PAR_SKIP
      | exact g_ABOVE_DISPLAY_SKIP
      | exact g_BELOW_DISPLAY_SKIP
      | exact g_LEFT_SKIP
      | exact g_RIGHT_SKIP
      | exact g_IGNORE_DEPTH
      | exact g_PageError
      | exact g_BadArgument
      | exact g_Overflow
      | exact g_TooDeep
      | exact g_UNITY
      | exact g_MAX_DIMEN
      | exact g_MAX_NUMBER
      | exact g_INF_BAD
      | exact g_NORMAL
      | exact g_FIL
      | exact g_FILL
      | exact g_FILLL
      | exact g_is_whole
      | exact g_check_whole
      | exact g_check_number
      | exact g_check_dimen
      | exact g_rounded
      | exact g_reading
      | exact g_decimal_text
      | exact g_times
      | exact g_times_scaled
      | exact g_over
      | exact g_over_scaled
      | exact g_badness
      | exact g_order_text
      | exact g_part_text
      | exact g_Glue
      | exact g_top_order
      | exact g_Totals
      | exact g_CHAR
      | exact g_LIGATURE
      | exact g_HBOX
      | exact g_VBOX
      | exact g_RULE
      | exact g_KERN
      | exact g_GLUE
      | exact g_PENALTY
      | exact g_DISC
      | exact g_MARK
      | exact g_INSERT
      | exact g_ADJUST
      | exact g_MATH
      | exact g_SPECIAL
      | exact g_UNSET
      | exact g_NATURAL
      | exact g_STRETCHED
      | exact g_SHRUNK
      | exact g_FONT_KERN
      | exact g_EXPLICIT
      | exact g_ACCENT_KERN
      | exact g_MU_KERN
      | exact g_PLAIN
      | exact g_ALEADERS
      | exact g_CLEADERS
      | exact g_XLEADERS
      | exact g_MU_SKIP
      | exact g_NONSCRIPT
      | exact g_NAMED
      | exact g_FOR_DEVICE
      | exact g_WRITING
      | exact g_OPENING
      | exact g_CLOSING
      | exact g_DEEPEST
      | exact g_Box
      | exact g_Rule
      | exact g_Kern
      | exact g_Skip
      | exact g_Penalty
      | exact g_check_depth
      | exact g_described_special
      | exact g_described_rest
      | exact g_described
      | exact g_described_list
      | exact g_width_of
      | exact g_height_of
      | exact g_depth_of
      | exact g_line_height
      | exact g_line_depth
      | exact g_append_box
      | exact g_EXACTLY
      | exact g_SPREAD
      | exact g_FINE
      | exact g_LOOSE
      | exact g_TIGHT
      | exact g_OVERFULL
      | exact g_across
      | exact g_check_column
      | exact g_natural_column
      | exact g_quotient
      | exact g_set_glue
      | exact g_flex
      | exact g_set_part
      | exact g_part_size
      | exact g_places
      | exact g_goal_size
      | exact g_set_box
      | exact g_vpack
      | exact g_law_pool
      | exact g_law_take
      | exact g_law_deeds
      | exact g_law_column
      | exact g_law_rows
      | exact g_law_begins
      | exact g_law_refused
      | exact g_law)
local macro_rules | `(tactic| walk_at "msb") => `(tactic| first | assumption | rfl | (simp only [decide_eq_true_eq, decide_eq_false_iff_not, beq_iff_eq, bne_iff_ne, ne_eq, Bool.not_eq_true', beq_eq_false_iff_ne, Bool.not_eq_false', bne_eq_false_iff_eq, Bool.not_eq_eq_eq_not, Bool.not_true, Bool.not_false, Bool.or_eq_true, Bool.and_eq_true, Bool.or_eq_false_iff, Bool.and_eq_false_iff]; omega))
local macro_rules | `(tactic| walk_at "ms") => `(tactic| first
  | ((with_reducible show W _ (execs _ _) _ _ _); first
    | with_reducible refine S_seq ?_
    | with_reducible refine S_nil ?_)
  | ((with_reducible show W _ (exec _ _) _ _ _); first
    | with_reducible refine S_if ?_
    | with_reducible refine S_ret ?_
    | with_reducible refine S_assign ?_ (by with_unfolding_all rfl)
    | with_reducible refine S_expr' (by assumption) ?_ (by with_unfolding_all rfl)
    | with_reducible refine S_assignA ?_ (by with_unfolding_all rfl)
    | with_reducible refine S_aug ?_
    | with_reducible refine S_augA ?_
    | with_reducible refine S_augS ?_ (by intros; with_unfolding_all rfl)
    | with_reducible refine S_assignS ?_ (by with_unfolding_all rfl))
  | ((with_reducible show W _ (eval _ _) _ _ _); first
    | ((with_reducible show W _ (eval (.Name _ _) _) _ _ _); first
      | (refine W_loc (Fn.scope (by assumption)) (by kernel_rfl) (by kernel_rfl) (by rfl) ?_ (by decide +kernel))
      | (refine W_glob (by assumption) (by kernel_rfl) (by walk_at "msg") ?_ (by decide +kernel))
      | (refine W_blt (by assumption) (by kernel_rfl) (by kernel_rfl) (by rfl) ?_ (by decide +kernel)))
    | with_reducible refine W_int ?_
    | with_reducible refine W_callf ?_
    | with_reducible refine W_attr ?_
    | with_reducible refine W_binop ?_
    | with_reducible refine W_cmp1 ?_
    | with_reducible refine W_Sub ?_
    | with_reducible refine W_meth ?_ (by with_unfolding_all rfl)
    | with_reducible refine W_unop ?_
    | with_reducible refine W_none ?_
    | with_reducible refine W_boolc ?_
    | with_reducible refine W_strc ?_
    | with_reducible refine W_chain2 ?_
    | with_reducible refine W_ifexp ?_
    | with_reducible refine W_bool ?_
    | with_reducible refine W_List ?_
    | with_reducible refine W_Tuple ?_)
  | ((with_reducible show W _ (isTrue _ _ _) _ _ _); first
    | with_reducible refine T_cmp1 ?_
    | with_reducible refine T_or ?_
    | with_reducible refine T_and ?_
    | with_reducible refine T_or_nil ?_
    | with_reducible refine T_and_nil ?_
    | with_reducible refine T_not ?_
    | with_reducible refine T_chain2 ?_
    | with_reducible refine T_ifexp ?_
    | refine T_val ?_)
  | ((with_reducible show W _ (truthy _) _ _ _); first
    | with_reducible refine T_bool ?_
    | with_reducible refine T_int ?_
    | with_reducible refine T_none ?_)
  | ((with_reducible show W _ (compareOp _ _ _) _ _ _); first
    | with_reducible refine V_eq ?_
    | with_reducible refine V_ne ?_
    | with_reducible refine V_lt ?_
    | with_reducible refine V_le ?_
    | with_reducible refine V_gt ?_
    | with_reducible refine V_ge ?_
    | with_reducible refine V_isI ?_
    | with_reducible refine V_isntI ?_
    | with_reducible refine V_isR ?_
    | with_reducible refine V_isntR ?_
    | with_reducible refine V_isNN ?_
    | with_reducible refine V_isntNN ?_
    | with_reducible refine V_isSelf ?_
    | with_reducible refine V_eqB ?_)
  | ((with_reducible show W _ (binaryOp _ _ _) _ _ _); first
    | with_reducible refine V_add ?_
    | with_reducible refine V_sub ?_)
  | ((with_reducible show W _ (inplaceOp _ _ _) _ _ _); first
    | with_reducible refine V_iadd ?_)
  | ((with_reducible show W _ (unaryOp _ _) _ _ _); first
    | with_reducible refine V_neg ?_
    | with_reducible refine V_notB ?_)
  | ((with_reducible show W _ (spliced _) _ _ _); first
    | with_reducible refine A_cons ?_ (by with_unfolding_all rfl)
    | with_reducible refine A_nil ?_)
  | ((with_reducible show W _ (call _ _) _ _ _); first
    | with_reducible refine isi_int_int ?_
    | with_reducible refine isi_int_bool ?_
    | with_reducible refine B_abs ?_
    | with_reducible refine B_intb ?_
    | with_reducible refine B_max (by assumption) ?_)
  | ((with_reducible show W _ (assign _ _ _) _ _ _); first
    | with_reducible refine W_assignN ?_
    | with_reducible refine W_assignA ?_)
  | ((with_reducible show W _ (assignInOrder _ _) _ _ _); first
    | with_reducible refine O_cons ?_
    | with_reducible refine O_nil ?_)
  | ((with_reducible show W _ (bindName _ _ _) _ _ _); first
    | with_reducible refine O_bind ?_)
  | ((with_reducible show W _ (boolOp _ _ _) _ _ _); first
    | with_reducible refine W_and2 ?_
    | with_reducible refine W_bool1 ?_)
  | ((with_reducible show W _ (loadName _ _) _ _ _); refine L_loc (Fn.scope (by assumption)) (by kernel_rfl) (by kernel_rfl) (by rfl) ?_)
  | ((with_reducible show W _ (storeName _ _ _) _ _ _); refine S_store (Fn.scope (by assumption)) (by kernel_rfl) (by kernel_rfl) ?_)
  | ((with_reducible show W _ (callWith _ _ _ _ _) _ _ _); first
    | ((with_reducible show W _ (callWith _ _ _ (backTo _ (starEach [] _)) _) _ _ _); refine W_cw0 (by assumption) (by first | exact Kp.of_builtin | exact Kp.of_type | exact Kp.of_ref (by kernel_rfl)) ?_)
    | (refine W_cw (by assumption) (by first | exact Kp.of_builtin | exact Kp.of_type | exact Kp.of_ref (by kernel_rfl)) ?_))
  | with_reducible first
    | refine Seq_next ?_
    | refine Seq_ret ?_
    | refine Seq_cont ?_
    | refine Loop_next ?_
    | refine Loop_cont ?_
    | refine Loop_ret ?_
  | ((with_reducible show if _ = true then _ else _); first
    | ((with_reducible refine ift ?h ?_); (case h => walk_at "msb"))
    | ((with_reducible refine iff' ?h ?_); (case h => walk_at "msb")))
  | ((fail_if_success (with_reducible show W _ _ _ _ _)); intro _)
  | fail "no step")
local macro_rules | `(tactic| walk_at "go") => `(tactic| repeat walk_at "ms")

set_option maxHeartbeats 4000000
section
variable {c : Cfg} {sc : Scope} {m : Mp} {H : Led} {P : Value → Mp → Led → Prop}
theorem check_whole_c {v : Int} {t : Tok} (f : Fn c sc) (r : Room c 1) (h : P (.int v t) m H) : W c (call (.ref 100) [.int v t]) m H P := by
  refine fn_check_whole (k := 0) f r [(Str.ofString "value", .int v t)] (fun s _ => BindsTo.of_eq (by kernel_rfl)) (by kernel_rfl) ?_
  intro c' hw f' r' n'
  show W c' (execs (_ :: _) _) _ _ _
  walk_at "go"
  exact h
end

-- MF2
set_option maxHeartbeats 4000000
section
variable {c : Cfg} {sc : Scope} {m : Mp} {H : Led} {P : Value → Mp → Led → Prop}
theorem is_whole_c {v lo hi : Int} {t t1 t2 : Tok} (f : Fn c sc) (r : Room c 1) (h : P (.bool (decide (lo ≤ v) && decide (v ≤ hi))) m H) : W c (call (.ref 93) [.int v t, .int lo t1, .int hi t2]) m H P := by
  refine fn_is_whole (k := 0) f r [(Str.ofString "value", .int v t), (Str.ofString "low", .int lo t1), (Str.ofString "high", .int hi t2)] (fun s _ => BindsTo.of_eq (by kernel_rfl)) (by kernel_rfl) ?_
  intro c' hw f' r' n'
  show W c' (execs (_ :: _) _) _ _ _
  walk_at "go"
  refine ifs (fun hb => ?_) fun hb => ?_
  · walk_at "go"
    rw [hb, Bool.true_and] at h
    exact h
  · walk_at "go"
    rw [hb, Bool.false_and] at h
    show P (.bool (decide (lo ≤ v))) m H
    rw [hb]
    exact h
noncomputable def InDim (v : Int) : Prop := -1073741823 ≤ v ∧ v ≤ 1073741823
theorem check_dimen_c {v : Int} {t : Tok} (f : Fn c sc) (r : Room c 2) (hv : InDim v) (h : P (.int v t) m H) : W c (call (.ref 114) [.int v t]) m H P := by
  have hv1 := hv.1
  have hv2 := hv.2
  refine fn_check_dimen (k := 1) f r [(Str.ofString "value", .int v t)] (fun s _ => BindsTo.of_eq (by kernel_rfl)) (by kernel_rfl) ?_
  intro c' hw f' r' n'
  show W c' (execs (_ :: _) _) _ _ _
  walk_at "go"
  refine check_whole_c f' (r'.le (by decide)) ?_
  walk_at "go"
  exact h
theorem check_number_c {v : Int} {t : Tok} (f : Fn c sc) (r : Room c 2) (hv : InDim v) (h : P (.int v t) m H) : W c (call (.ref 107) [.int v t]) m H P := by
  have hv1 := hv.1
  have hv2 := hv.2
  refine fn_check_number (k := 1) f r [(Str.ofString "value", .int v t)] (fun s _ => BindsTo.of_eq (by kernel_rfl)) (by kernel_rfl) ?_
  intro c' hw f' r' n'
  show W c' (execs (_ :: _) _) _ _ _
  walk_at "go"
  refine check_whole_c f' (r'.le (by decide)) ?_
  walk_at "go"
  exact h
noncomputable def roundI (n b : Int) : Int := if n < 0 then -((b - 2 * n).fdiv (2 * b)) else (2 * n + b).fdiv (2 * b)
theorem rounded_c {n b : Int} {t u : Tok} (f : Fn c sc) (r : Room c 1) (hb : 0 < b) (hb2 : b ≤ 2 ^ 60) (h : ∀ k, P (.int (roundI n b) k) m H) : W c (call (.ref 121) [.int n t, .int b u]) m H P := by
  refine fn_rounded (k := 0) f r [(Str.ofString "number", .int n t), (Str.ofString "by", .int b u)] (fun s _ => BindsTo.of_eq (by kernel_rfl)) (by kernel_rfl) ?_
  intro c' hw f' r' n'
  show W c' (execs (_ :: _) _) _ _ _
  unfold roundI at h
  walk_at "go"
  refine ifs (fun hn => ?_) fun hn => ?_
  · have hn' : n < 0 := of_decide_eq_true hn
    rw [if_pos hn'] at h
    walk_at "go"
    refine V_mulL ?_ (by omega)
    walk_at "go"
    refine V_mulL ?_ (by omega)
    walk_at "go"
    refine V_fdiv (by omega) (by omega) ?_
    walk_at "go"
    exact h _
  · have hn' : ¬ n < 0 := of_decide_eq_false hn
    rw [if_neg hn'] at h
    walk_at "go"
    refine V_mulL ?_ (by omega)
    walk_at "go"
    refine V_mulL ?_ (by omega)
    walk_at "go"
    refine V_fdiv (by omega) (by omega) ?_
    walk_at "go"
    exact h _
theorem badness_c {e t : Int} {t1 t2 : Tok} (f : Fn c sc) (r : Room c 1) (h0 : 0 ≤ e) (h1 : e ≤ 1000) (h2 : 0 ≤ t) (h3 : t ≤ 2 ^ 40) (h : ∀ n k, P (.int n k) m H) : W c (call (.ref 156) [.int e t1, .int t t2]) m H P := by
  refine fn_badness (k := 0) f r [(Str.ofString "excess", .int e t1), (Str.ofString "total", .int t t2)] (fun s _ => BindsTo.of_eq (by kernel_rfl)) (by kernel_rfl) ?_
  intro c' hw f' r' n'
  show W c' (execs (_ :: _) _) _ _ _
  walk_at "go"
  refine ifs (fun hb => ?_) fun hb => ?_
  · walk_at "go"; exact h _ _
  walk_at "go"
  refine ifs (fun hb2 => ?_) fun hb2 => ?_
  · walk_at "go"; exact h _ _
  have ht : 0 < t := by have := of_decide_eq_false hb2; omega
  walk_at "go"
  refine V_mulL ?_ (by omega)
  walk_at "go"
  refine V_fdiv (by omega) (by omega) ?_
  walk_at "go"
  refine ifs (fun hb3 => ?_) fun hb3 => ?_
  · walk_at "go"; exact h _ _
  have hr : (e * 297).fdiv t ≤ 1290 := by have := of_decide_eq_false hb3; omega
  have hr0 : 0 ≤ (e * 297).fdiv t := Int.fdiv_nonneg (by omega) (by omega)
  generalize (e * 297).fdiv t = q at *
  walk_at "go"
  refine V_mulL ?_ (by omega)
  walk_at "go"
  refine V_mulR ?_ (by omega)
  walk_at "go"
  refine V_fdiv (by decide) (by decide) ?_
  walk_at "go"
  exact h _ _
end

-- T2
theorem bd_described {P : Params} {s : Shared} {x : Value} (X : (kk P).In s.heap) : BindsTo s fd_described ⟨[x], []⟩ [(Str.ofString "node", x), (Str.ofString "depth", .int 0 863)] := 
  binds_K (o := k455 P) X rfl (by kernel_rfl) rfl rfl (by kernel_rfl)
theorem bd_Skip {P : Params} {s : Shared} {x g v : Value} (X : (kk P).In s.heap) : BindsTo s fd_Skip_init ⟨[x, g, v], []⟩ [(Str.ofString "self", x), (Str.ofString "glue", g), (Str.ofString "sort", v), (Str.ofString "leader", .none)] := 
  binds_K (o := k400 P) X rfl (by kernel_rfl) rfl rfl (by kernel_rfl)
theorem bd_vpack1 {P : Params} {s : Shared} {x : Value} (X : (kk P).In s.heap) : BindsTo s fd_vpack ⟨[x], []⟩ [(Str.ofString "items", x), (Str.ofString "mode", .int 1 929), (Str.ofString "amount", .int 0 1039), (Str.ofString "most_depth", .int 1073741823 297)] := 
  binds_K (o := k588 P) X rfl (by kernel_rfl) rfl rfl (by kernel_rfl)
theorem bd_vpack3 {P : Params} {s : Shared} {x a b : Value} (X : (kk P).In s.heap) : BindsTo s fd_vpack ⟨[x, a, b], []⟩ [(Str.ofString "items", x), (Str.ofString "mode", a), (Str.ofString "amount", b), (Str.ofString "most_depth", .int 1073741823 297)] := 
  binds_K (o := k588 P) X rfl (by kernel_rfl) rfl rfl (by kernel_rfl)
theorem bd_Glue5 {P : Params} {s : Shared} {x a b d e g : Value} (X : (kk P).In s.heap) : BindsTo s fd_Glue_init ⟨[x, a, b, d, e, g], []⟩ [(Str.ofString "self", x), (Str.ofString "width", a), (Str.ofString "stretch", b), (Str.ofString "stretch_order", d), (Str.ofString "shrink", e), (Str.ofString "shrink_order", g)] := 
  binds_K (o := k178 P) X rfl (by kernel_rfl) rfl rfl (by kernel_rfl)
theorem bd_Glue1 {P : Params} {s : Shared} {x a : Value} (X : (kk P).In s.heap) : BindsTo s fd_Glue_init ⟨[x, a], []⟩ [(Str.ofString "self", x), (Str.ofString "width", a), (Str.ofString "stretch", .int 0 433), (Str.ofString "stretch_order", .int 0 434), (Str.ofString "shrink", .int 0 435), (Str.ofString "shrink_order", .int 0 436)] := 
  binds_K (o := k178 P) X rfl (by kernel_rfl) rfl rfl (by kernel_rfl)

-- MF3
theorem IsD.cast {o : Obj} {g g' : List (Str × Value)} (h : IsD o g) (e : g = g') : IsD o g' := e ▸ h
section
variable {c : Cfg} {sc : Scope} {m : Mp} {H : Led}
theorem P_attrH {x dx C : Addr} {od : Obj} {g : List (Str × Value)} {name : Str} {v : Value} {G : Led} {P : Unit → Mp → Led → Prop} (f : Fn c sc) (h1 : (x, instObj C dx) ∈ (dx, od) :: G) (hd : IsD od g) (fr : ∀ p ∈ G, p.1 ≠ dx)
    (hs : findIn (kk c.w.params) (.ref C) "__setattr__" = some (some (.builtin "object.__setattr__"))) (hp : plainOver (kk c.w.params) C = true) (ht : takerIn (kk c.w.params) C name = some none) (hh : hasDictIn (kk c.w.params) C = true) (hz : g.length ≤ 999)
    (h : ∀ o', IsD o' (putA name v g) → P () m ((dx, o') :: G)) : W c (setAttr (.ref x) name v) m ((dx, od) :: G) P :=
  P_attr f h1 (.head _) hd hs hp ht hh hz fun o' ho => ⟨_, put_head fr, h o' ho⟩
end
set_option maxHeartbeats 4000000
local macro_rules | `(tactic| walk_at "set") => `(tactic| (refine P_attrH (by assumption) (by first | exact .tail _ (.head _)) (by assumption) (by assumption) (by kernel_rfl) (by kernel_rfl) (by kernel_rfl) (by kernel_rfl) (Nat.le_of_ble_eq_true (by kernel_rfl)) ?_; intro _ _))
section
variable {c : Cfg} {sc : Scope} {m : Mp} {H : Led} {P : Value → Mp → Led → Prop}
theorem fr_new {x dx : Addr} {o : Obj} (f2 : ∀ p ∈ H, p.1 ≠ dx) (f3 : x ≠ dx) : ∀ p ∈ (x, o) :: H, p.1 ≠ dx := fun p hp => by
  rcases List.mem_cons.mp hp with rfl | q
  · exact f3
  · exact f2 p q
noncomputable def pen (v : Value) : List (Str × Value) := [(Str.ofString "value", v)]
theorem mk_Penalty_c {v : Int} {t : Tok} (f : Fn c sc) (r : Room c 4) (hv : InDim v) (h : ∀ x dx od, (∀ p ∈ H, p.1 ≠ x) → (∀ p ∈ H, p.1 ≠ dx) → x ≠ dx → IsD od (pen (.int v t)) → P (.ref x) m ((dx, od) :: (x, instObj 431 dx) :: H)) :
    W c (call (.ref 431) [.int v t]) m H P := by
  refine mk_Penalty (k := 2) f r (fun x => [(Str.ofString "self", .ref x), (Str.ofString "value", .int v t)]) (fun x s _ => BindsTo.of_eq (by kernel_rfl)) (fun x => by kernel_rfl) ?_
  intro x dx f1 f2 f3 c' hw n' f' r'
  have fr := fr_new (o := instObj 431 dx) f2 f3
  have d0 : IsD emptyDict [] := .new
  show W c' (execs (_ :: _) _) _ _ _
  walk_at "go"
  refine check_number_c f' (r'.le (by decide)) hv ?_
  walk_at "go"
  walk_at "set"
  walk_at "go"
  exact ⟨rfl, h x dx _ f1 f2 f3 (IsD.cast (by assumption) (by kernel_rfl))⟩

theorem W_join {b : Bool} {t1 t2 : Sem Value} {K : Value → Mp → Led → Prop} (Q : Value → Prop) (h1 : b = true → ∀ K' : Value → Mp → Led → Prop, (∀ v, Q v → K' v m H) → W c t1 m H K') (h2 : b = false → ∀ K' : Value → Mp → Led → Prop, (∀ v, Q v → K' v m H) → W c t2 m H K')
    (k : ∀ v, Q v → K v m H) : if b = true then W c t1 m H K else W c t2 m H K := ifs (fun e => h1 e K k) fun e => h2 e K k
noncomputable def kernF (w s : Value) : List (Str × Value) := [(Str.ofString "width", w), (Str.ofString "sort", s)]
theorem mk_Kern_c {v s : Int} {t t2 : Tok} (f : Fn c sc) (r : Room c 4) (hv : InDim v) (hs : 0 ≤ s ∧ s ≤ 3) (h : ∀ x dx od, (∀ p ∈ H, p.1 ≠ x) → (∀ p ∈ H, p.1 ≠ dx) → x ≠ dx → IsD od (kernF (.int v t) (.int s t2)) → P (.ref x) m ((dx, od) :: (x, instObj 388 dx) :: H)) :
    W c (call (.ref 388) [.int v t, .int s t2]) m H P := by
  refine mk_Kern (k := 2) f r (fun x => [(Str.ofString "self", .ref x), (Str.ofString "width", .int v t), (Str.ofString "sort", .int s t2)]) (fun x s _ => BindsTo.of_eq (by kernel_rfl)) (fun x => by kernel_rfl) ?_
  intro x dx f1 f2 f3 c' hw n' f' r'
  have fr := fr_new (o := instObj 388 dx) f2 f3
  have d0 : IsD emptyDict [] := .new
  have hs1 := hs.1
  have hs2 := hs.2
  show W c' (execs (_ :: _) _) _ _ _
  walk_at "go"
  refine is_whole_c f' (r'.le (by decide)) ?_
  walk_at "go"
  refine check_dimen_c f' (r'.le (by decide)) hv ?_
  walk_at "go"
  walk_at "set"
  walk_at "go"
  walk_at "set"
  walk_at "go"
  exact ⟨rfl, h x dx _ f1 f2 f3 (IsD.cast (by assumption) (by kernel_rfl))⟩
noncomputable def skipF (g s l : Value) : List (Str × Value) := [(Str.ofString "glue", g), (Str.ofString "sort", s), (Str.ofString "leader", l)]
theorem mk_Skip_c {g : Addr} {s : Int} {t2 : Tok} (f : Fn c sc) (r : Room c 4) (hs : s = 0 ∨ s = 100 ∨ s = 101) (h : ∀ x dx od, (∀ p ∈ H, p.1 ≠ x) → (∀ p ∈ H, p.1 ≠ dx) → x ≠ dx → IsD od (skipF (.ref g) (.int s t2) .none) → P (.ref x) m ((dx, od) :: (x, instObj 410 dx) :: H)) :
    W c (call (.ref 410) [.ref g, .int s t2]) m H P := by
  refine mk_Skip (k := 2) f r (fun x => [(Str.ofString "self", .ref x), (Str.ofString "glue", .ref g), (Str.ofString "sort", .int s t2), (Str.ofString "leader", .none)]) (fun x s X => bd_Skip X) (fun x => by kernel_rfl) ?_
  intro x dx f1 f2 f3 c' hw n' f' r'
  have fr := fr_new (o := instObj 410 dx) f2 f3
  have d0 : IsD emptyDict [] := .new
  rcases hs with rfl | rfl | rfl
  all_goals
    show W c' (execs (_ :: _) _) _ _ _
    walk_at "go"
    refine is_whole_c f' (r'.le (by decide)) ?_
    walk_at "go"
    try (refine is_whole_c f' (r'.le (by decide)) ?_; walk_at "go")
    repeat (walk_at "set"; walk_at "go")
    exact ⟨rfl, h x dx _ f1 f2 f3 (IsD.cast (by assumption) (by kernel_rfl))⟩
noncomputable def glueF (w st so sh sho : Value) : List (Str × Value) := [(Str.ofString "width", w), (Str.ofString "stretch", st), (Str.ofString "stretch_order", so), (Str.ofString "shrink", sh), (Str.ofString "shrink_order", sho)]
inductive GlueD (od : Obj) (w st sh : Int) : Prop
  | mk (t1 t2 t3 t4 t5 : Tok) (d : IsD od (glueF (.int w t1) (.int st t2) (.int 0 t3) (.int sh t4) (.int 0 t5))) : GlueD od w st sh
theorem Glue_body {w st sh : Int} {t1 t2 t3 t4 t5 : Tok} {c' : Cfg} {x dx : Addr} {P' : Flow → Mp → Led → Prop} (f' : Fn c' (scoOf (mAt 28 0))) (r' : Room c' 2) (h1 : InDim w) (h2 : InDim st) (h3 : InDim sh)
    (f1 : ∀ p ∈ H, p.1 ≠ x) (f2 : ∀ p ∈ H, p.1 ≠ dx) (f3 : x ≠ dx) (h : ∀ od m', GlueD od w st sh → P' .next m' ((dx, od) :: (x, instObj 238 dx) :: H)) :
    W c' (execs (bodOf (mAt 28 0)) c'.env) [(Str.ofString "self", .ref x), (Str.ofString "width", .int w t1), (Str.ofString "stretch", .int st t2), (Str.ofString "stretch_order", .int 0 t3), (Str.ofString "shrink", .int sh t4), (Str.ofString "shrink_order", .int 0 t5)].reverse
      ((dx, emptyDict) :: (x, instObj 238 dx) :: H) P' := by
  have fr := fr_new (o := instObj 238 dx) f2 f3
  have d0 : IsD emptyDict [] := .new
  show W c' (execs (_ :: _) _) _ _ _
  walk_at "go"
  refine is_whole_c f' (r'.le (by decide)) ?_
  walk_at "go"
  refine is_whole_c f' (r'.le (by decide)) ?_
  walk_at "go"
  refine check_dimen_c f' (r'.le (by decide)) h1 ?_
  walk_at "go"
  walk_at "set"
  walk_at "go"
  refine check_dimen_c f' (r'.le (by decide)) h2 ?_
  walk_at "go"
  walk_at "set"
  walk_at "go"
  refine W_join (fun v => ∃ t, v = .int 0 t) (fun _ K' k => ?_) (fun _ K' k => ?_) ?_
  · walk_at "go"; exact k _ ⟨_, rfl⟩
  · walk_at "go"; exact k _ ⟨_, rfl⟩
  rintro _ ⟨s1, rfl⟩
  walk_at "go"
  walk_at "set"
  walk_at "go"
  refine check_dimen_c f' (r'.le (by decide)) h3 ?_
  walk_at "go"
  walk_at "set"
  walk_at "go"
  refine W_join (fun v => ∃ t, v = .int 0 t) (fun _ K' k => ?_) (fun _ K' k => ?_) ?_
  · walk_at "go"; exact k _ ⟨_, rfl⟩
  · walk_at "go"; exact k _ ⟨_, rfl⟩
  rintro _ ⟨s2, rfl⟩
  walk_at "go"
  walk_at "set"
  walk_at "go"
  exact h _ _ ⟨t1, t2, s1, t4, s2, IsD.cast (by assumption) (by kernel_rfl)⟩
theorem mk_Glue_c {w st sh : Int} {t1 t2 t3 t4 t5 : Tok} (f : Fn c sc) (r : Room c 4) (h1 : InDim w) (h2 : InDim st) (h3 : InDim sh)
    (h : ∀ x dx od, (∀ p ∈ H, p.1 ≠ x) → (∀ p ∈ H, p.1 ≠ dx) → x ≠ dx → GlueD od w st sh → P (.ref x) m ((dx, od) :: (x, instObj 238 dx) :: H)) :
    W c (call (.ref 238) [.int w t1, .int st t2, .int 0 t3, .int sh t4, .int 0 t5]) m H P := by
  refine mk_Glue (k := 2) f r (fun x => [(Str.ofString "self", .ref x), (Str.ofString "width", .int w t1), (Str.ofString "stretch", .int st t2), (Str.ofString "stretch_order", .int 0 t3), (Str.ofString "shrink", .int sh t4), (Str.ofString "shrink_order", .int 0 t5)])
    (fun x s X => bd_Glue5 X) (fun x => by kernel_rfl) ?_
  intro x dx f1 f2 f3 c' hw n' f' r'
  exact Glue_body f' r' h1 h2 h3 f1 f2 f3 fun od m' hd => ⟨rfl, h x dx od f1 f2 f3 hd⟩
theorem mk_Glue1_c {w : Int} {t1 : Tok} (f : Fn c sc) (r : Room c 4) (h1 : InDim w)
    (h : ∀ x dx od, (∀ p ∈ H, p.1 ≠ x) → (∀ p ∈ H, p.1 ≠ dx) → x ≠ dx → GlueD od w 0 0 → P (.ref x) m ((dx, od) :: (x, instObj 238 dx) :: H)) :
    W c (call (.ref 238) [.int w t1]) m H P := by
  refine mk_Glue (k := 2) f r (fun x => [(Str.ofString "self", .ref x), (Str.ofString "width", .int w t1), (Str.ofString "stretch", .int 0 433), (Str.ofString "stretch_order", .int 0 434), (Str.ofString "shrink", .int 0 435), (Str.ofString "shrink_order", .int 0 436)])
    (fun x s X => bd_Glue1 X) (fun x => by kernel_rfl) ?_
  intro x dx f1 f2 f3 c' hw n' f' r'
  exact Glue_body f' r' h1 ⟨by decide, by decide⟩ ⟨by decide, by decide⟩ f1 f2 f3 fun od m' hd => ⟨rfl, h x dx od f1 f2 f3 hd⟩
end

-- MF4
section
variable {c : Cfg} {sc : Scope} {m : Mp} {H : Led}
theorem P_attrU {x dx C : Addr} {od : Obj} {g : List (Str × Value)} {name : Str} {v : Value} {P : Unit → Mp → Led → Prop} (f : Fn c sc) (h1 : (x, instObj C dx) ∈ H) (h2 : (dx, od) ∈ H) (hd : IsD od g)
    (hs : findIn (kk c.w.params) (.ref C) "__setattr__" = some (some (.builtin "object.__setattr__"))) (hp : plainOver (kk c.w.params) C = true) (ht : takerIn (kk c.w.params) C name = some none) (hh : hasDictIn (kk c.w.params) C = true) (hz : g.length ≤ 999)
    {H' : Obj → Led} (hH : ∀ o', ∀ p ∈ H' o', p = (dx, o') ∨ (p ∈ H ∧ p.1 ≠ dx)) (h : ∀ o', IsD o' (putA name v g) → P () m (H' o')) : W c (setAttr (.ref x) name v) m H P :=
  P_attr f h1 h2 hd hs hp ht hh hz fun o' ho => ⟨_, hH o', h o' ho⟩
noncomputable def Kn (m m' : Mp) : Prop := ∀ y v, m.lookup y = some v → m'.lookup y = some v
theorem Kn.refl {m : Mp} : Kn m m := fun _ _ e => e
inductive AllLk (m' : Mp) : Mp → Prop
  | nil : AllLk m' []
  | cons {k : Str} {v : Value} {r : Mp} (h : m'.lookup k = some v) (t : AllLk m' r) : AllLk m' ((k, v) :: r)
theorem Kn.of {m' m : Mp} (h : AllLk m' m) : Kn m m' := by
  induction h with
  | nil => exact fun _ _ e => nomatch e
  | @cons k u r h t ih =>
    intro y v e
    rw [List.lookup_cons] at e
    by_cases q : y = k
    · subst q; simp at e; subst e; exact h
    · rw [beq_false_of_ne q] at e; exact ih y v e
end
local macro_rules | `(tactic| walk_at "led") => `(tactic| (intro p hp; simp only [List.mem_cons] at hp ⊢; grind))
local macro_rules | `(tactic| walk_at "kn") => `(tactic| first | assumption | exact Kn.refl | (refine Kn.of ?_; repeat (first | exact .nil | refine .cons (by rfl) ?_)))
set_option maxHeartbeats 4000000
local macro_rules | `(tactic| walk_at "set") => `(tactic| (refine P_attrH (by assumption) (by first | exact .tail _ (.head _)) (by assumption) (by assumption) (by kernel_rfl) (by kernel_rfl) (by kernel_rfl) (by kernel_rfl) (Nat.le_of_ble_eq_true (by kernel_rfl)) ?_; intro _ _))
section
variable {c : Cfg} {sc : Scope} {m : Mp} {H : Led} {P : Value → Mp → Led → Prop}
noncomputable def ruleF (w h d : Value) : List (Str × Value) := [(Str.ofString "width", w), (Str.ofString "height", h), (Str.ofString "depth", d)]
theorem mk_Rule_c {a b : Int} {t t2 : Tok} (f : Fn c sc) (r : Room c 4) (h1 : InDim a) (h2 : InDim b)
    (h : ∀ x dx od H', (∀ p ∈ H', p.1 ≠ x) → (∀ p ∈ H', p.1 ≠ dx) → x ≠ dx → (∀ p ∈ H, p ∈ H') → IsD od (ruleF .none (.int a t) (.int b t2)) → P (.ref x) m ((dx, od) :: (x, instObj 367 dx) :: H')) :
    W c (call (.ref 367) [.none, .int a t, .int b t2]) m H P := by
  refine mk_Rule (k := 2) f r (fun x => [(Str.ofString "self", .ref x), (Str.ofString "width", .none), (Str.ofString "height", .int a t), (Str.ofString "depth", .int b t2)]) (fun x s X => BindsTo.of_eq (by kernel_rfl)) (fun x => by kernel_rfl) ?_
  intro x dx f1 f2 f3 c' hw n' f' r'
  have fr := fr_new (o := instObj 367 dx) f2 f3
  have d0 : IsD emptyDict [] := .new
  show W c' (execs (_ :: _) _) _ _ _
  refine S_seq ?_
  refine W_for f' ?_
  walk_at "go"
  refine N_tuple (fun tp ft => ?_)
  refine ⟨tp, _, [.none, .int a t, .int b t2], fun i m' H' => Kn [(Str.ofString "depth", .int b t2), (Str.ofString "height", .int a t), (Str.ofString "width", .none), (Str.ofString "self", .ref x)] m' ∧ H' = (tp, tupOf [.none, .int a t, .int b t2]) :: (dx, emptyDict) :: (x, instObj 367 dx) :: H, rfl, .inr .new,
    ⟨Kn.refl, rfl⟩, fun i m' H' h => h.2 ▸ .head _, ?_, .inl fun _ _ => rfl, ?_⟩
  · rintro i m' H' c₂ v hv ⟨kn, rfl⟩ lk
    refine W_know kn ?_
    have f₂ := lk.fn f'
    have r₂ := lk.room r'
    match i, v, hv with
    | 0, _, rfl =>
      walk_at "go"
      exact ⟨by walk_at "kn", rfl⟩
    | 1, _, rfl =>
      walk_at "go"
      refine check_dimen_c f₂ (r₂.le (by decide)) h1 ?_
      walk_at "go"
      exact ⟨by walk_at "kn", rfl⟩
    | 2, _, rfl =>
      walk_at "go"
      refine check_dimen_c f₂ (r₂.le (by decide)) h2 ?_
      walk_at "go"
      exact ⟨by walk_at "kn", rfl⟩
    | n + 3, _, h => cases h
  · rintro m' _ ⟨kn, rfl⟩
    refine Seq_next (W_know kn ?_)
    have hx : tp ≠ x := fun e => ft (x, instObj 367 dx) (.tail _ (.head _)) e.symm
    have hd : tp ≠ dx := fun e => ft (dx, emptyDict) (.head _) e.symm
    have fr2 : ∀ p ∈ (x, instObj 367 dx) :: (tp, tupOf [.none, .int a t, .int b t2]) :: H, p.1 ≠ dx := by
      intro p hp
      rcases List.mem_cons.mp hp with rfl | hp
      · exact f3
      rcases List.mem_cons.mp hp with rfl | hp
      · exact hd
      · exact f2 p hp
    refine W_sub (H' := (dx, emptyDict) :: (x, instObj 367 dx) :: (tp, tupOf [.none, .int a t, .int b t2]) :: H) ?_ ?_
    · intro p hp
      rcases List.mem_cons.mp hp with rfl | hp
      · exact .tail _ (.head _)
      rcases List.mem_cons.mp hp with rfl | hp
      · exact .tail _ (.tail _ (.head _))
      rcases List.mem_cons.mp hp with rfl | hp
      · exact .head _
      · exact .tail _ (.tail _ (.tail _ hp))
    walk_at "go"
    repeat (walk_at "set"; walk_at "go")
    refine ⟨rfl, h x dx _ _ ?_ ?_ f3 (fun p hp => .tail _ hp) (IsD.cast (by assumption) (by kernel_rfl))⟩
    · intro p hp
      rcases List.mem_cons.mp hp with rfl | hp
      · exact hx
      · exact f1 p hp
    · intro p hp
      rcases List.mem_cons.mp hp with rfl | hp
      · exact hd
      · exact f2 p hp
noncomputable def totF (n st sh : Value) : List (Str × Value) := [(Str.ofString "natural", n), (Str.ofString "stretch", st), (Str.ofString "shrink", sh)]
inductive four (a b d e : Int) (vs : List Value) : Prop
  | mk (t1 t2 t3 t4 : Tok) (h : vs = [.int a t1, .int b t2, .int d t3, .int e t4]) : four a b d e vs
theorem mk_Totals_c (f : Fn c sc) (r : Room c 4)
    (h : ∀ x dx l1 l2 od o1 o2 v1 v2 t, (∀ p ∈ H, p.1 ≠ x ∧ p.1 ≠ dx ∧ p.1 ≠ l1 ∧ p.1 ≠ l2) → x ≠ dx → l1 ≠ dx → l1 ≠ x → l2 ≠ dx → l2 ≠ x → l1 ≠ l2 → IsD od (totF (.int 0 t) (.ref l1) (.ref l2)) → IsL o1 v1 → IsL o2 v2 → four 0 0 0 0 v1 → four 0 0 0 0 v2 →
      P (.ref x) m ((dx, od) :: (x, instObj 301 dx) :: (l1, o1) :: (l2, o2) :: H)) :
    W c (call (.ref 301) []) m H P := by
  refine mk_Totals (k := 2) f r (fun x => [(Str.ofString "self", .ref x)]) (fun x s X => BindsTo.of_eq (by kernel_rfl)) (fun x => by kernel_rfl) ?_
  intro x dx f1 f2 f3 c' hw n' f' r'
  have fr := fr_new (o := instObj 301 dx) f2 f3
  have d0 : IsD emptyDict [] := .new
  show W c' (execs (_ :: _) _) _ _ _
  walk_at "go"
  walk_at "set"
  rename_i t0 od0 hd0
  walk_at "go"
  refine N_list (fun l1 g1 => ?_)
  have ndl1 : dx ≠ l1 := g1 (dx, od0) (.head _)
  have nxl1 : x ≠ l1 := g1 (x, instObj 301 dx) (.tail _ (.head _))
  have gl1 : ∀ p ∈ H, p.1 ≠ l1 := fun p hp => g1 p (.tail _ (.tail _ hp))
  generalize hv1 : [Value.int 0 _, Value.int 0 _, Value.int 0 _, Value.int 0 _] = v1
  have F1 : four 0 0 0 0 v1 := ⟨_, _, _, _, hv1.symm⟩
  refine W_sub (H' := (dx, od0) :: (x, instObj 301 dx) :: (l1, listOf v1.toArray 0) :: H) (by walk_at "led") ?_
  have fr1 : ∀ p ∈ (x, instObj 301 dx) :: (l1, listOf v1.toArray 0) :: H, p.1 ≠ dx := by walk_at "led"
  walk_at "go"
  walk_at "set"
  rename_i od1 hd1
  walk_at "go"
  refine N_list (fun l2 g2 => ?_)
  have ndl2 : dx ≠ l2 := g2 (dx, od1) (.head _)
  have nxl2 : x ≠ l2 := g2 (x, instObj 301 dx) (.tail _ (.head _))
  have nll : l1 ≠ l2 := g2 (l1, listOf v1.toArray 0) (.tail _ (.tail _ (.head _)))
  have gl2 : ∀ p ∈ H, p.1 ≠ l2 := fun p hp => g2 p (.tail _ (.tail _ (.tail _ hp)))
  generalize hv2 : [Value.int 0 _, Value.int 0 _, Value.int 0 _, Value.int 0 _] = v2
  have F2 : four 0 0 0 0 v2 := ⟨_, _, _, _, hv2.symm⟩
  refine W_sub (H' := (dx, od1) :: (x, instObj 301 dx) :: (l1, listOf v1.toArray 0) :: (l2, listOf v2.toArray 0) :: H) (by walk_at "led") ?_
  have fr2 : ∀ p ∈ (x, instObj 301 dx) :: (l1, listOf v1.toArray 0) :: (l2, listOf v2.toArray 0) :: H, p.1 ≠ dx := by walk_at "led"
  walk_at "go"
  walk_at "set"
  walk_at "go"
  exact ⟨rfl, h x dx l1 l2 _ _ _ v1 v2 t0 (fun p hp => ⟨f1 p hp, f2 p hp, gl1 p hp, gl2 p hp⟩) f3 ndl1.symm nxl1.symm ndl2.symm nxl2.symm nll (IsD.cast (by assumption) (by kernel_rfl)) .new .new F1 F2⟩
noncomputable def boxF (k w h d it sh sg od ra : Value) : List (Str × Value) := [(Str.ofString "kind", k), (Str.ofString "width", w), (Str.ofString "height", h), (Str.ofString "depth", d), (Str.ofString "items", it), (Str.ofString "shift", sh), (Str.ofString "sign", sg), (Str.ofString "order", od), (Str.ofString "ratio", ra)]
theorem mk_Box_c {k w ht d : Int} {t1 t2 t3 t4 : Tok} {it : Addr} (f : Fn c sc) (r : Room c 4) (hk : k = 2 ∨ k = 3) (h1 : InDim w) (h2 : InDim ht) (h3 : InDim d)
    (h : ∀ x dx l od vr t5 t6 t7, (∀ p ∈ H, p.1 ≠ x ∧ p.1 ≠ dx ∧ p.1 ≠ l) → x ≠ dx → l ≠ dx → l ≠ x → IsD od (boxF (.int k t1) (.int w t2) (.int ht t3) (.int d t4) (.ref it) (.int 0 t5) (.int 0 t6) (.int 0 t7) (.ref l)) → (∃ t8 t9, vr = [.int 0 t8, .int 1 t9]) →
      P (.ref x) m ((dx, od) :: (x, instObj 346 dx) :: (l, tupOf vr) :: H)) :
    W c (call (.ref 346) [.int k t1, .int w t2, .int ht t3, .int d t4, .ref it]) m H P := by
  refine mk_Box (k := 2) f r (fun x => [(Str.ofString "self", .ref x), (Str.ofString "kind", .int k t1), (Str.ofString "width", .int w t2), (Str.ofString "height", .int ht t3), (Str.ofString "depth", .int d t4), (Str.ofString "items", .ref it)]) (fun x s X => BindsTo.of_eq (by kernel_rfl)) (fun x => by kernel_rfl) ?_
  intro x dx f1 f2 f3 c' hw n' f' r'
  have fr := fr_new (o := instObj 346 dx) f2 f3
  have d0 : IsD emptyDict [] := .new
  have hk' : (decide (2 ≤ k) && decide (k ≤ 3)) = true := by rcases hk with rfl | rfl <;> rfl
  show W c' (execs (_ :: _) _) _ _ _
  walk_at "go"
  refine is_whole_c f' (r'.le (by decide)) ?_
  rw [hk']
  walk_at "go"
  walk_at "set"
  walk_at "go"
  refine check_dimen_c f' (r'.le (by decide)) h1 ?_
  walk_at "go"
  walk_at "set"
  walk_at "go"
  refine check_dimen_c f' (r'.le (by decide)) h2 ?_
  walk_at "go"
  walk_at "set"
  walk_at "go"
  refine check_dimen_c f' (r'.le (by decide)) h3 ?_
  walk_at "go"
  walk_at "set"
  walk_at "go"
  walk_at "set"
  walk_at "go"
  rename_i ts
  walk_at "set"
  walk_at "go"
  walk_at "set"
  walk_at "go"
  rename_i to
  walk_at "set"
  rename_i odz hdz
  walk_at "go"
  refine N_tuple (fun l g => ?_)
  have ndl : dx ≠ l := g (dx, odz) (.head _)
  have nxl : x ≠ l := g (x, instObj 346 dx) (.tail _ (.head _))
  have gl : ∀ p ∈ H, p.1 ≠ l := fun p hp => g p (.tail _ (.tail _ hp))
  generalize hvr : [Value.int 0 _, Value.int 1 _] = vr
  refine W_sub (H' := (dx, odz) :: (x, instObj 346 dx) :: (l, tupOf vr) :: H) (by walk_at "led") ?_
  have fr1 : ∀ p ∈ (x, instObj 346 dx) :: (l, tupOf vr) :: H, p.1 ≠ dx := by walk_at "led"
  walk_at "go"
  walk_at "set"
  walk_at "go"
  exact ⟨rfl, h x dx l _ vr ts 629 to (fun p hp => ⟨f1 p hp, f2 p hp, gl p hp⟩) f3 ndl.symm nxl.symm (IsD.cast (by assumption) (by kernel_rfl)) ⟨_, _, hvr.symm⟩⟩
end

-- MF5
section
variable {α : Type} {c : Cfg} {sc : Scope} {m : Mp} {H : Led}
theorem szl {α : Type} {vs : List α} (h : vs.length ≤ 1000) : vs.length ≤ sizeLine := by rw [sizeLine_eq]; omega
theorem W_post {t : Sem α} {P : α → Mp → Led → Prop} (h : W c t m H fun v m' H' => ∃ H₂ : Led, (∀ p ∈ H₂, p ∈ H') ∧ P v m' H₂) : W c t m H P := fun s I =>
  wpAny_mono (h s I) (fun _ _ ⟨m', H', J, H₂, hs, p⟩ => ⟨m', H₂, J.sub hs, p⟩) fun _ _ e => e
end
set_option maxHeartbeats 4000000
local macro_rules | `(tactic| walk_at "led") => `(tactic| (intro p hp; simp only [List.mem_cons] at hp ⊢; grind))
local macro_rules | `(tactic| walk_at "kn") => `(tactic| first | assumption | exact Kn.refl | (refine Kn.of ?_; repeat (first | exact .nil | refine .cons (by rfl) ?_)))
local macro_rules | `(tactic| walk_at "own") => `(tactic| (refine G_own (attr := none) (by assumption) (by assumption) (by assumption) (by assumption) (by rfl) (by kernel_rfl) (by kernel_rfl) (by kernel_rfl) rfl (by rfl) ?_))
section
variable {c : Cfg} {sc : Scope} {m : Mp} {H : Led} {P : Value → Mp → Led → Prop}
theorem top_order_c {a : Addr} {o : Obj} {vs : List Value} {n : Int} (f : Fn c sc) (r : Room c 1) (hm : (a, o) ∈ H) (hl : IsL o vs) (hv : four n 0 0 0 vs) (h : ∀ t, P (.int 0 t) m H) : W c (call (.ref 249) [.ref a]) m H P := by
  obtain ⟨t1, t2, t3, t4, rfl⟩ := hv
  refine W_post ?_
  refine fn_top_order (k := 0) f r [(Str.ofString "sums", .ref a)] (fun s _ => BindsTo.of_eq (by kernel_rfl)) (by kernel_rfl) ?_
  intro c' hw f' r' n'
  show W c' (execs (_ :: _) _) _ _ _
  refine S_seq ?_
  refine W_for f' ?_
  walk_at "go"
  refine N_tuple (fun tp ft => ?_) (szl (Nat.le_of_ble_eq_true rfl))
  generalize htv : [Value.int 3 _, Value.int 2 _, Value.int 1 _] = tv
  refine ⟨tp, _, tv, fun i m' H' => Kn [(Str.ofString "sums", .ref a)] m' ∧ H' = (tp, tupOf tv) :: H, rfl, .inr .new, ⟨Kn.refl, rfl⟩, fun i m' H' h => h.2 ▸ .head _, ?_, .inl fun _ _ => rfl, ?_⟩
  · rintro i m' H' c₂ v hv ⟨kn, rfl⟩ lk
    refine W_know kn ?_
    have f₂ := lk.fn f'
    have hm' : (a, o) ∈ (tp, tupOf tv) :: H := .tail _ hm
    subst htv
    match i, v, hv with
    | 0, _, rfl =>
      walk_at "go"
      refine X_lst hm' hl (by decide) rfl ?_ (by decide)
      walk_at "go"
      exact ⟨by walk_at "kn", rfl⟩
    | 1, _, rfl =>
      walk_at "go"
      refine X_lst hm' hl (by decide) rfl ?_ (by decide)
      walk_at "go"
      exact ⟨by walk_at "kn", rfl⟩
    | 2, _, rfl =>
      walk_at "go"
      refine X_lst hm' hl (by decide) rfl ?_ (by decide)
      walk_at "go"
      exact ⟨by walk_at "kn", rfl⟩
    | n + 3, _, h => cases h
  · rintro m' _ ⟨kn, rfl⟩
    refine Seq_next ?_
    walk_at "go"
    exact ⟨H, fun p hp => .tail _ hp, h _⟩
theorem quotient_c {u d : Int} {t1 t2 : Tok} (f : Fn c sc) (r : Room c 1) (hd : 0 < d) (h : ∀ a, (∀ p ∈ H, p.1 ≠ a) → P (.ref a) m ((a, tupOf [.int u t1, .int d t2]) :: H)) : W c (call (.ref 538) [.int u t1, .int d t2]) m H P := by
  refine fn_quotient (k := 0) f r [(Str.ofString "up", .int u t1), (Str.ofString "down", .int d t2)] (fun s _ => BindsTo.of_eq (by kernel_rfl)) (by kernel_rfl) ?_
  intro c' hw f' r' n'
  show W c' (execs (_ :: _) _) _ _ _
  walk_at "go"
  refine N_tuple (fun a ft => ?_) (szl (Nat.le_of_ble_eq_true rfl))
  walk_at "go"
  exact h a ft
theorem goal_size_c {own amount : Int} {mode : Int} {t1 t2 t3 : Tok} (f : Fn c sc) (r : Room c 3) (hm : mode = 0 ∨ mode = 1) (ha : InDim amount) (h : ∀ t, P (.int (if mode = 0 then amount else own + amount) t) m H) :
    W c (call (.ref 580) [.int own t1, .int mode t2, .int amount t3]) m H P := by
  refine fn_goal_size (k := 2) f r [(Str.ofString "own", .int own t1), (Str.ofString "mode", .int mode t2), (Str.ofString "amount", .int amount t3)] (fun s _ => BindsTo.of_eq (by kernel_rfl)) (by kernel_rfl) ?_
  intro c' hw f' r' n'
  show W c' (execs (_ :: _) _) _ _ _
  rcases hm with rfl | rfl
  · walk_at "go"
    refine check_dimen_c f' (r'.le (by decide)) ha ?_
    walk_at "go"
    exact h _
  · walk_at "go"
    refine check_dimen_c f' (r'.le (by decide)) ha ?_
    walk_at "go"
    exact h _
inductive GlueAt (H : Led) (v : Value) (w st sh : Int) : Prop
  | mk (x dx : Addr) (od : Obj) (e : v = .ref x) (h1 : (x, instObj 238 dx) ∈ H) (h2 : (dx, od) ∈ H) (d : GlueD od w st sh) : GlueAt H v w st sh
theorem GlueAt.mono {H H' : Led} {v : Value} {w st sh : Int} (h : GlueAt H v w st sh) (k : ∀ p ∈ H, p ∈ H') : GlueAt H' v w st sh := by
  obtain ⟨x, dx, od, e, a, b, d⟩ := h
  exact ⟨x, dx, od, e, k _ a, k _ b, d⟩
theorem Glue_parts_c {x : Addr} {w st sh : Int} (f : Fn c sc) (r : Room c 1) (hg : GlueAt H (.ref x) w st sh) (h : ∀ a vs, (∀ p ∈ H, p.1 ≠ a) → Rds H vs [.int w, .int st, .int 0, .int sh, .int 0] → P (.ref a) m ((a, tupOf vs) :: H)) :
    W c (call (.ref 192) [.ref x]) m H P := by
  obtain ⟨_, dx, od, e, hx, hd, t1, t2, t3, t4, t5, hD⟩ := hg
  cases e
  refine fn_Glue_parts (k := 0) f r [(Str.ofString "self", .ref x)] (fun s _ => BindsTo.of_eq (by kernel_rfl)) (by kernel_rfl) ?_
  intro c' hw f' r' n'
  show W c' (execs (_ :: _) _) _ _ _
  walk_at "go"
  repeat (walk_at "own"; walk_at "go")
  refine N_tuple (fun a ft => ?_) (szl (Nat.le_of_ble_eq_true rfl))
  walk_at "go"
  exact h a _ ft (.cons .int (.cons .int (.cons .int (.cons .int (.cons .int .nil)))))
end

-- MF6
inductive Nd where
  | box (h d : Int)
  | rule (h d : Int)
  | kern (w : Int)
  | skip (w st sh s : Int)
  | pen (v : Int)
/-- an object with its own dict -/
inductive ObAt (H : Led) (v : Value) (C : Addr) (g : List (Str × Value)) : Prop
  | mk (x dx : Addr) (od : Obj) (e : v = .ref x) (h1 : (x, instObj C dx) ∈ H) (h2 : (dx, od) ∈ H) (d : IsD od g) : ObAt H v C g
theorem ObAt.mono {H H' : Led} {v : Value} {C : Addr} {g : List (Str × Value)} (h : ObAt H v C g) (k : ∀ p ∈ H, p ∈ H') : ObAt H' v C g := by
  obtain ⟨x, dx, od, e, a, b, d⟩ := h
  exact ⟨x, dx, od, e, k _ a, k _ b, d⟩
inductive BoxAt (H : Led) (v : Value) (h d : Int) : Prop
  | mk (it : Addr) (oi : Obj) (l : Addr) (ol : Obj) (t1 t2 t3 t4 t5 t6 t7 t8 t9 : Tok) (ob : ObAt H v 346 (boxF (.int 2 t1) (.int 3 t2) (.int h t3) (.int d t4) (.ref it) (.int 0 t5) (.int 0 t6) (.int 0 t7) (.ref l))) (h1 : (it, oi) ∈ H) (h2 : IsL oi []) (h3 : (l, ol) ∈ H) (h4 : IsT ol [.int 0 t8, .int 1 t9]) : BoxAt H v h d
inductive RuleAt (H : Led) (v : Value) (h d : Int) : Prop
  | mk (t1 t2 : Tok) (ob : ObAt H v 367 (ruleF .none (.int h t1) (.int d t2))) : RuleAt H v h d
inductive KernAt (H : Led) (v : Value) (w : Int) : Prop
  | mk (t1 t2 : Tok) (ob : ObAt H v 388 (kernF (.int w t1) (.int 1 t2))) : KernAt H v w
inductive SkipAt (H : Led) (v : Value) (w st sh s : Int) : Prop
  | mk (g : Addr) (t : Tok) (ob : ObAt H v 410 (skipF (.ref g) (.int s t) .none)) (gl : GlueAt H (.ref g) w st sh) : SkipAt H v w st sh s
inductive PenAt (H : Led) (v : Value) (n : Int) : Prop
  | mk (t : Tok) (ob : ObAt H v 431 (pen (.int n t))) : PenAt H v n
noncomputable def NdAt (H : Led) (v : Value) : Nd → Prop
  | .box h d => BoxAt H v h d
  | .rule h d => RuleAt H v h d
  | .kern w => KernAt H v w
  | .skip w st sh s => SkipAt H v w st sh s
  | .pen n => PenAt H v n
theorem NdAt.mono {H H' : Led} {v : Value} {n : Nd} (h : NdAt H v n) (k : ∀ p ∈ H, p ∈ H') : NdAt H' v n := by
  cases n with
  | box h d =>
    obtain ⟨it, oi, l, ol, t1, t2, t3, t4, t5, t6, t7, t8, t9, a, b, b2, d, d2⟩ := h
    exact ⟨it, oi, l, ol, t1, t2, t3, t4, t5, t6, t7, t8, t9, a.mono k, k _ b, b2, k _ d, d2⟩
  | rule h d => obtain ⟨t1, t2, a⟩ := h; exact ⟨t1, t2, a.mono k⟩
  | kern w => obtain ⟨t1, t2, a⟩ := h; exact ⟨t1, t2, a.mono k⟩
  | skip w st sh s => obtain ⟨g, t, a, b⟩ := h; exact ⟨g, t, a.mono k, b.mono k⟩
  | pen n => obtain ⟨t, a⟩ := h; exact ⟨t, a.mono k⟩
theorem NdAt.ref {H : Led} {v : Value} {n : Nd} (h : NdAt H v n) : ∃ a, v = .ref a := by
  cases n with
  | box h d => obtain ⟨it, oi, l, ol, t1, t2, t3, t4, t5, t6, t7, t8, t9, ⟨x, dx, od, e, _⟩, _⟩ := h; exact ⟨x, e⟩
  | rule h d => obtain ⟨t1, t2, ⟨x, dx, od, e, _⟩⟩ := h; exact ⟨x, e⟩
  | kern w => obtain ⟨t1, t2, ⟨x, dx, od, e, _⟩⟩ := h; exact ⟨x, e⟩
  | skip w st sh s => obtain ⟨g, t, ⟨x, dx, od, e, _⟩, _⟩ := h; exact ⟨x, e⟩
  | pen n => obtain ⟨t, ⟨x, dx, od, e, _⟩⟩ := h; exact ⟨x, e⟩
noncomputable def Nd.kind : Nd → Int
  | .box _ _ => 2 | .rule _ _ => 4 | .kern _ => 5 | .skip _ _ _ _ => 6 | .pen _ => 7
noncomputable def Nd.height : Nd → Int
  | .box h _ => h | .rule h _ => h | _ => 0
noncomputable def Nd.depth : Nd → Int
  | .box _ d => d | .rule _ d => d | _ => 0
noncomputable def Nd.across : Nd → Int
  | .box _ _ => 3 | _ => 0
set_option maxHeartbeats 4000000
local macro_rules | `(tactic| walk_at "led") => `(tactic| (intro p hp; simp only [List.mem_cons] at hp ⊢; grind))
local macro_rules | `(tactic| walk_at "own") => `(tactic| (refine G_own (attr := none) (by assumption) (by assumption) (by assumption) (by assumption) (by rfl) (by kernel_rfl) (by kernel_rfl) (by kernel_rfl) rfl (by rfl) ?_))
local macro_rules | `(tactic| walk_at "kind") => `(tactic| (first
  | (refine G_cls (C := 367) (a := .int 4 603) (by assumption) (by assumption) (by assumption) (by assumption) (by rfl) (by kernel_rfl) (by kernel_rfl) (by kernel_rfl) (by kernel_rfl) (by rfl) (by kernel_rfl) ?_)
  | (refine G_cls (C := 388) (a := .int 5 604) (by assumption) (by assumption) (by assumption) (by assumption) (by rfl) (by kernel_rfl) (by kernel_rfl) (by kernel_rfl) (by kernel_rfl) (by rfl) (by kernel_rfl) ?_)
  | (refine G_cls (C := 410) (a := .int 6 605) (by assumption) (by assumption) (by assumption) (by assumption) (by rfl) (by kernel_rfl) (by kernel_rfl) (by kernel_rfl) (by kernel_rfl) (by rfl) (by kernel_rfl) ?_)
  | (refine G_cls (C := 431) (a := .int 7 606) (by assumption) (by assumption) (by assumption) (by assumption) (by rfl) (by kernel_rfl) (by kernel_rfl) (by kernel_rfl) (by kernel_rfl) (by rfl) (by kernel_rfl) ?_)))
local macro_rules | `(tactic| walk_at "gox") => `(tactic| repeat (first | walk_at "ms" | ((with_reducible show W _ (getAttr _ _ _) _ _ _); first | walk_at "own" | walk_at "kind")))
section
variable {c : Cfg} {sc : Scope} {m : Mp} {H : Led} {P : Value → Mp → Led → Prop}
theorem kind_c {v : Value} {n : Nd} {e : Bool} (f : Fn c sc) (hn : NdAt H v n) (h : ∀ t, P (.int n.kind t) m H) : W c (getAttr v (Str.ofString "kind") e) m H P := by
  cases n with
  | box h d =>
    obtain ⟨it, oi, l, ol, t1, t2, t3, t4, t5, t6, t7, t8, t9, ⟨x, dx, od, rfl, h1, h2, hd⟩, _⟩ := hn
    walk_at "own"
    exact h _
  | rule h d => obtain ⟨t1, t2, ⟨x, dx, od, rfl, h1, h2, hd⟩⟩ := hn; walk_at "kind"; exact h _
  | kern w => obtain ⟨t1, t2, ⟨x, dx, od, rfl, h1, h2, hd⟩⟩ := hn; walk_at "kind"; exact h _
  | skip w st sh s => obtain ⟨g, t, ⟨x, dx, od, rfl, h1, h2, hd⟩, _⟩ := hn; walk_at "kind"; exact h _
  | pen n => obtain ⟨t, ⟨x, dx, od, rfl, h1, h2, hd⟩⟩ := hn; walk_at "kind"; exact h _
theorem height_of_c {v : Value} {n : Nd} (f : Fn c sc) (r : Room c 2) (hn : NdAt H v n) (h : ∀ t, P (.int n.height t) m H) : W c (call (.ref 476) [v]) m H P := by
  refine fn_height_of (k := 1) f r [(Str.ofString "node", v)] (fun s _ => BindsTo.of_eq (by kernel_rfl)) (by kernel_rfl) ?_
  intro c' hw f' r' n'
  show W c' (execs (_ :: _) _) _ _ _
  cases n with
  | box h d =>
    obtain ⟨it, oi, l, ol, t1, t2, t3, t4, t5, t6, t7, t8, t9, ⟨x, dx, od, rfl, h1, h2, hd⟩, _⟩ := hn
    walk_at "gox"
    exact h _
  | rule h d => obtain ⟨t1, t2, ⟨x, dx, od, rfl, h1, h2, hd⟩⟩ := hn; walk_at "gox"; exact h _
  | kern w => obtain ⟨t1, t2, ⟨x, dx, od, rfl, h1, h2, hd⟩⟩ := hn; walk_at "gox"; exact h _
  | skip w st sh s => obtain ⟨g, t, ⟨x, dx, od, rfl, h1, h2, hd⟩, _⟩ := hn; walk_at "gox"; exact h _
  | pen n => obtain ⟨t, ⟨x, dx, od, rfl, h1, h2, hd⟩⟩ := hn; walk_at "gox"; exact h _
end

-- MF7
set_option maxHeartbeats 4000000
local macro_rules | `(tactic| walk_at "led") => `(tactic| (intro p hp; simp only [List.mem_cons] at hp ⊢; grind))
local macro_rules | `(tactic| walk_at "own") => `(tactic| (refine G_own (attr := none) (by assumption) (by assumption) (by assumption) (by assumption) (by rfl) (by kernel_rfl) (by kernel_rfl) (by kernel_rfl) rfl (by rfl) ?_))
local macro_rules | `(tactic| walk_at "kind") => `(tactic| (first
  | (refine G_cls (C := 367) (a := .int 4 603) (by assumption) (by assumption) (by assumption) (by assumption) (by rfl) (by kernel_rfl) (by kernel_rfl) (by kernel_rfl) (by kernel_rfl) (by rfl) (by kernel_rfl) ?_)
  | (refine G_cls (C := 388) (a := .int 5 604) (by assumption) (by assumption) (by assumption) (by assumption) (by rfl) (by kernel_rfl) (by kernel_rfl) (by kernel_rfl) (by kernel_rfl) (by rfl) (by kernel_rfl) ?_)
  | (refine G_cls (C := 410) (a := .int 6 605) (by assumption) (by assumption) (by assumption) (by assumption) (by rfl) (by kernel_rfl) (by kernel_rfl) (by kernel_rfl) (by kernel_rfl) (by rfl) (by kernel_rfl) ?_)
  | (refine G_cls (C := 431) (a := .int 7 606) (by assumption) (by assumption) (by assumption) (by assumption) (by rfl) (by kernel_rfl) (by kernel_rfl) (by kernel_rfl) (by kernel_rfl) (by rfl) (by kernel_rfl) ?_)))
local macro_rules | `(tactic| walk_at "gox") => `(tactic| repeat (first | walk_at "ms" | ((with_reducible show W _ (getAttr _ _ _) _ _ _); first | walk_at "own" | walk_at "kind")))
section
variable {c : Cfg} {sc : Scope} {m : Mp} {H : Led} {P : Value → Mp → Led → Prop}
theorem depth_of_c {v : Value} {n : Nd} (f : Fn c sc) (r : Room c 2) (hn : NdAt H v n) (h : ∀ t, P (.int n.depth t) m H) : W c (call (.ref 481) [v]) m H P := by
  refine fn_depth_of (k := 1) f r [(Str.ofString "node", v)] (fun s _ => BindsTo.of_eq (by kernel_rfl)) (by kernel_rfl) ?_
  intro c' hw f' r' n'
  show W c' (execs (_ :: _) _) _ _ _
  cases n with
  | box ht dp =>
    obtain ⟨it, oi, l, ol, t1, t2, t3, t4, t5, t6, t7, t8, t9, ⟨x, dx, od, rfl, h1, h2, hd⟩, _⟩ := hn
    walk_at "gox"
    exact h _
  | rule ht dp => obtain ⟨t1, t2, ⟨x, dx, od, rfl, h1, h2, hd⟩⟩ := hn; walk_at "gox"; exact h _
  | kern w => obtain ⟨t1, t2, ⟨x, dx, od, rfl, h1, h2, hd⟩⟩ := hn; walk_at "gox"; exact h _
  | skip w st sh s => obtain ⟨g, t, ⟨x, dx, od, rfl, h1, h2, hd⟩, _⟩ := hn; walk_at "gox"; exact h _
  | pen n => obtain ⟨t, ⟨x, dx, od, rfl, h1, h2, hd⟩⟩ := hn; walk_at "gox"; exact h _
theorem width_of0_c {v : Value} {n : Nd} (f : Fn c sc) (r : Room c 1) (hn : NdAt H v n) (h0 : n.kind = 4 ∨ n.kind = 7) (h : ∀ t, P (.int 0 t) m H) : W c (call (.ref 471) [v]) m H P := by
  refine fn_width_of (k := 0) f r [(Str.ofString "node", v)] (fun s _ => BindsTo.of_eq (by kernel_rfl)) (by kernel_rfl) ?_
  intro c' hw f' r' n'
  show W c' (execs (_ :: _) _) _ _ _
  cases n with
  | box ht dp =>
    obtain ⟨it, oi, l, ol, t1, t2, t3, t4, t5, t6, t7, t8, t9, ⟨x, dx, od, rfl, h1, h2, hd⟩, _⟩ := hn
    rcases h0 with h0 | h0 <;> simp [Nd.kind] at h0
  | rule ht dp => obtain ⟨t1, t2, ⟨x, dx, od, rfl, h1, h2, hd⟩⟩ := hn; walk_at "gox"; exact h _
  | kern w => obtain ⟨t1, t2, ⟨x, dx, od, rfl, h1, h2, hd⟩⟩ := hn; rcases h0 with h0 | h0 <;> simp [Nd.kind] at h0
  | skip w st sh s => obtain ⟨g, t, ⟨x, dx, od, rfl, h1, h2, hd⟩, _⟩ := hn; rcases h0 with h0 | h0 <;> simp [Nd.kind] at h0
  | pen n => obtain ⟨t, ⟨x, dx, od, rfl, h1, h2, hd⟩⟩ := hn; walk_at "gox"; exact h _
theorem across_c {v : Value} {n : Nd} (f : Fn c sc) (r : Room c 2) (hn : NdAt H v n) (h : ∀ t, P (.int n.across t) m H) : W c (call (.ref 517) [v]) m H P := by
  refine fn_across (k := 1) f r [(Str.ofString "node", v)] (fun s _ => BindsTo.of_eq (by kernel_rfl)) (by kernel_rfl) ?_
  intro c' hw f' r' n'
  show W c' (execs (_ :: _) _) _ _ _
  cases n with
  | box ht dp =>
    obtain ⟨it, oi, l, ol, t1, t2, t3, t4, t5, t6, t7, t8, t9, ⟨x, dx, od, rfl, h1, h2, hd⟩, _⟩ := hn
    walk_at "gox"
    exact h _
  | rule ht dp => obtain ⟨t1, t2, ⟨x, dx, od, rfl, h1, h2, hd⟩⟩ := hn; walk_at "gox"; refine width_of0_c (n := .rule ht dp) f' (r'.le (by decide)) ⟨t1, t2, x, dx, od, rfl, h1, h2, hd⟩ (.inl rfl) ?_; walk_at "gox"; exact h _
  | kern w => obtain ⟨t1, t2, ⟨x, dx, od, rfl, h1, h2, hd⟩⟩ := hn; walk_at "gox"; exact h _
  | skip w st sh s => obtain ⟨g, t, ⟨x, dx, od, rfl, h1, h2, hd⟩, _⟩ := hn; walk_at "gox"; exact h _
  | pen n => obtain ⟨t, ⟨x, dx, od, rfl, h1, h2, hd⟩⟩ := hn; walk_at "gox"; refine width_of0_c (n := .pen n) f' (r'.le (by decide)) ⟨t, x, dx, od, rfl, h1, h2, hd⟩ (.inr rfl) ?_; walk_at "gox"; exact h _
end

-- MF8
noncomputable abbrev fd_dl : FuncData := fnOf (Str.ofString "described_list") (Str.ofString "described_list") (parOf (stAt 48)) (bodOf (stAt 48)) (scoOf (stAt 48)) (.ref 461) (.none) (.none) (.str (Str.ofString "gluepage.nodes") 597) none (.ref 465) (.none)
theorem dl_cells (n : Nat) : cellsFrom n (scoOf (stAt 48)).names [] = [(Str.ofString "depth", n)] := by kernel_rfl
theorem dl_items : (scoOf (stAt 48)).names.lookup (Str.ofString "items") = some .local := by kernel_rfl
theorem dl_depth : (scoOf (stAt 48)).names.lookup (Str.ofString "depth") = some .cell := by kernel_rfl
section
variable {c : Cfg} {sc : Scope} {m : Mp} {H : Led} {P : Value → Mp → Led → Prop}
theorem fn_described_list {k : Nat} {it dv : Value} {pos : List Value} (f : Fn c sc) (r : Room c (k + 1)) (hb : ∀ s : Shared, (kk c.w.params).In s.heap → BindsTo s fd_dl ⟨pos, []⟩ [(Str.ofString "items", it), (Str.ofString "depth", dv)])
    (h : ∀ c' ce oc, c'.w = c.w → Fn c' (scoOf (stAt 48)) → Room c' k → (Hn c → Hn c') → c'.env.cells = [(Str.ofString "depth", ce)] → oc.data = .cell (some dv) → (∀ p ∈ H, p.1 ≠ ce) →
      W c' (execs (bodOf (stAt 48)) c'.env) [(Str.ofString "items", it)] ((ce, oc) :: H) (fun fl _ H' => P (retv fl) m H')) : W c (call (.ref 466) pos) m H P := fun s I => by
  have X := f.ok.X.keeps I.F.keep
  refine wpAny_call (codeAny_call_function (o := k466 c.w.params) (fd := fd_dl) (body := bodOf (stAt 48)) (by have := r.1; omega) (X 466 _ (by kernel_rfl)) rfl (by kernel_rfl) (by kernel_rfl) rfl (codeRec_of X (by kernel_rfl)) (hb s X _ _ _ _ ?_))
  refine wpAny_newFunctionEnv_cells (by kernel_rfl) (fun y hy => ?_) fun env' he s' x => ?_
  · rw [show fd_dl.scope = scoOf (stAt 48) from rfl, dl_cells]
    rcases List.mem_cons.mp hy with rfl | hy
    · exact .inl dl_items
    · obtain rfl := List.mem_singleton.mp hy
      exact .inr ⟨dl_depth, rfl⟩
  rw [show fd_dl.scope = scoOf (stAt 48) from rfl, dl_cells] at he
  have hL : env'.locals = s.heap.objs.size := by rw [he]; rfl
  have hC : env'.cells = [(Str.ofString "depth", s.heap.objs.size + 1)] := by rw [he]; rfl
  have hS : env'.scope = scoOf (stAt 48) := by rw [he]; rfl
  have hG : env'.globals = mainGlobals := by rw [he]; rfl
  have hB : env'.builtins = builtinsNs := by rw [he]; rfl
  have lim := (f.ok.lim.keeps I.F.keep).keeps x.toInCall.keep
  refine ⟨lim, codeAny_func ?_⟩
  obtain ⟨h₁, tk, rfl, _⟩ := x.done
  have hk₁ := x.toInCall.keep
  obtain ⟨oc, hoc, hdc⟩ := x.cell (Str.ofString "depth") (s.heap.objs.size + 1) (by rw [hC]; rfl)
  have eC : bindC env'.kindOf [(Str.ofString "items", it), (Str.ofString "depth", dv)] (fun _ => none) (Str.ofString "depth") = some dv := by
    have e1 : env'.kindOf (Str.ofString "items") = some .local := by unfold Env.kindOf; rw [hS]; exact dl_items
    have e2 : env'.kindOf (Str.ofString "depth") = some .cell := by unfold Env.kindOf; rw [hS]; exact dl_depth
    simp only [bindC, e1, e2, if_true, show (some NameKind.cell = some NameKind.local) = False from by simp, if_false]
  rw [eC] at hdc
  have eL : bindL env'.kindOf [(Str.ofString "items", it), (Str.ofString "depth", dv)] (fun _ => none) = fun y => if y = Str.ofString "items" then some it else none := by
    have e1 : env'.kindOf (Str.ofString "items") = some .local := by unfold Env.kindOf; rw [hS]; exact dl_items
    have e2 : env'.kindOf (Str.ofString "depth") = some .cell := by unfold Env.kindOf; rw [hS]; exact dl_depth
    simp only [bindL, e1, e2, if_true, show (some NameKind.cell = some NameKind.local) = False from by simp, if_false]
  have ns := x.toInCall.ns
  rw [eL] at ns
  obtain ⟨oL, es, ep, hLo, hLd, hLk, hLf⟩ := I.F.ns
  have hLs : c.L < s.heap.objs.size := Heap.lt_size hLo
  let c' : Cfg := { prog := c.prog, w := c.w, A := c.A.deeper env', E := fun e s' => wpAny (model c.prog c.w) (c.A.deeper env') (leaving env' e) (fun _ s'' => c.E e s'') (fun e' s'' => c.E e' s'') s', h₀ := c.h₀, FR := (c.L, oL) :: c.FR, env := env', gens := c.gens, drawn := c.drawn, os := c.os }
  have none0 : ∀ a, Nat.le c.h₀.objs.size a → c.h₀.get? a = none := fun a ha => by
    cases e : c.h₀.get? a with
    | none => rfl
    | some o' => exact absurd (Heap.lt_size e) (Nat.not_lt.mpr ha)
  have hab : Nat.le c.h₀.objs.size s.heap.objs.size := Nat.le_of_lt (Nat.lt_of_le_of_lt I.F.above hLs)
  have I' : Inv c' [(Str.ofString "items", it)] ((s.heap.objs.size + 1, oc) :: H) { s with heap := h₁, toks := tk } := by
    refine ⟨I.gens, I.drawn, I.os, ⟨_, ⟨ns, fun b o e => hk₁ _ _ (I.F.keep b o e), by show Nat.le c.h₀.objs.size env'.locals; rw [hL]; exact hab⟩, fun y v e => ?_⟩, ?_, ?_⟩
    · rw [List.lookup_cons] at e
      by_cases q : y = Str.ofString "items"
      · subst q; rw [if_pos rfl]; simpa using e
      · rw [beq_false_of_ne q] at e; cases e
    · intro p hp
      show h₁.get? p.1 = some p.2 ∧ p.1 ≠ env'.locals ∧ c.h₀.get? p.1 = none
      rw [hL]
      rcases List.mem_append.mp hp with q | q
      · rcases List.mem_cons.mp q with rfl | q
        · exact ⟨hoc, Nat.succ_ne_self _, none0 _ (Nat.le_succ_of_le hab)⟩
        · have y := I.N p (List.mem_append_left _ q)
          exact ⟨hk₁ _ _ y.1, Nat.ne_of_lt (I.lt p (List.mem_append_left _ q)), y.2.2⟩
      · rcases List.mem_cons.mp q with rfl | q
        · exact ⟨hk₁ _ _ hLo, Nat.ne_of_lt hLs, none0 _ I.F.above⟩
        · have y := I.N p (List.mem_append_right _ q)
          exact ⟨hk₁ _ _ y.1, Nat.ne_of_lt (I.lt p (List.mem_append_right _ q)), y.2.2⟩
    · intro p hp q hq
      rcases List.mem_cons.mp hp with rfl | hp
      · rcases List.mem_cons.mp hq with rfl | hq
        · exact Nat.ne_of_gt (Nat.lt_succ_of_lt hLs)
        · exact Nat.ne_of_gt (Nat.lt_succ_of_lt (I.lt q (List.mem_append_right _ hq)))
      · rcases List.mem_cons.mp hq with rfl | hq
        · exact (I.N p (List.mem_append_left _ hp)).2.1
        · exact I.ap p hp q hq
  have fc' : Fn c' (scoOf (stAt 48)) := ⟨hS, by kernel_rfl, hG, hB, f.ok, by
    rcases f.calm with q | ⟨e, o, q1, q2, q3⟩
    · exact .inl q
    · exact .inr ⟨e, o, q1, .tail _ q2, q3⟩⟩
  have hr : Room c' k := ⟨by show c.A.depth + 1 + k < _; have := r.1; omega, by show c.A.units + 3 + 4 * k < _; have := r.2; omega⟩
  have z := h c' (s.heap.objs.size + 1) oc rfl fc' hr (fun e => e) hC hdc (fun p hp => Nat.ne_of_lt (Nat.lt_succ_of_lt (I.lt p (List.mem_append_left _ hp))))
  refine wpAny_mono (z _ I') (fun fl s' ⟨m', H', J, p⟩ => ?_) fun _ _ e => e
  have back : Inv c m H' s' := by
    have hLn : s'.heap.get? c.L = some oL := (J.N (c.L, oL) (List.mem_append_right _ (.head _))).1
    refine ⟨J.gens, J.drawn, J.os, ⟨_, ⟨⟨oL, es, ep, hLn, hLd, hLk, hLf⟩, J.F.keep, I.F.above⟩, I.kn⟩, ?_, fun p hp q hq => J.ap p hp q (.tail _ hq)⟩
    intro p hp
    have hp' : p ∈ H' ++ c'.FR := by
      rcases List.mem_append.mp hp with q | q
      · exact List.mem_append_left _ q
      · exact List.mem_append_right _ (.tail _ q)
    refine ⟨(J.N p hp').1, ?_, (J.N p hp').2.2⟩
    rcases List.mem_append.mp hp with q | q
    · exact J.ap p q (c.L, oL) (.head _)
    · exact (I.N p (List.mem_append_right _ q)).2.1
  cases fl <;> exact ⟨m, H', back, p⟩
end

-- MF9
section
variable {c : Cfg} {sc : Scope} {m : Mp} {H : Led}
theorem W_cell {x : Str} {pos : Pos} {ce : Addr} {oc : Obj} {v : Value} {P : Value → Mp → Led → Prop} (f : Fn c sc) (hl : sc.names.lookup x = some .cell) (hc : c.env.cells.lookup x = some ce) (hm : (ce, oc) ∈ H) (hd : oc.data = .cell (some v)) (h : P v m H)
    (hdb : (x == ("__debug__" : Str)) = false := by decide) : W c (eval (.Name x pos) c.env) m H P := fun s I =>
  wpAny_Name (wpAny_loadName_cell (by rw [f.scope]; exact f.kind) (by unfold Env.kindOf; rw [f.scope]; exact hl) hc ⟨oc, I.at_ hm, hd⟩ ⟨_, _, I, h⟩) hdb
theorem clos_depth {env : Env} {ce : Addr} {scope : Scope} (hs : scope.names = [(Str.ofString ".0", NameKind.local), (Str.ofString "node", NameKind.local), (Str.ofString "described", NameKind.globalImplicit), (Str.ofString "depth", NameKind.free)]) (hc : env.cells = [(Str.ofString "depth", ce)]) :
    closureFor scope env = pure [(Str.ofString "depth", ce)] := by
  unfold closureFor cellOf
  rw [hs, hc]
  rfl
theorem V_addTR {a b : Addr} {oa ob : Obj} {vs ws : List Value} {P : Value → Mp → Led → Prop} (ha : (a, oa) ∈ H) (la : IsT oa vs) (hb : (b, ob) ∈ H) (lb : IsT ob ws) (hv : vs ≠ []) (hw : ws ≠ []) (hz : vs.length + ws.length ≤ 1000)
    (h : ∀ d, (∀ p ∈ H, p.1 ≠ d) → P (.ref d) m ((d, tupOf (vs ++ ws)) :: H)) : W c (binaryOp .Add (.ref a) (.ref b)) m H P := V_addT ha la hb lb hv hw (by rw [sizeLine_eq]; omega) h
end
noncomputable def Nd.datum : Nd → PyData
  | .box h d => .tuple [.int 2, .int 3, .int h, .int d, .int 0, .int 0, .int 0, .tuple [.int 0, .int 1], .tuple []]
  | .rule h d => .tuple [.int 4, .tuple [], .tuple [.int h], .tuple [.int d]]
  | .kern w => .tuple [.int 5, .int w, .int 1]
  | .skip w st sh s => .tuple [.int 6, .tuple [.int w, .int st, .int 0, .int sh, .int 0], .int s, .tuple []]
  | .pen v => .tuple [.int 7, .int v]
set_option maxHeartbeats 4000000
local macro_rules | `(tactic| walk_at "led") => `(tactic| (intro p hp; simp only [List.mem_cons] at hp ⊢; grind))
local macro_rules | `(tactic| walk_at "own") => `(tactic| (refine G_own (attr := none) (by assumption) (by assumption) (by assumption) (by assumption) (by rfl) (by kernel_rfl) (by kernel_rfl) (by kernel_rfl) rfl (by rfl) ?_))
local macro_rules | `(tactic| walk_at "kind") => `(tactic| (first
  | (refine G_cls (C := 367) (a := .int 4 603) (by assumption) (by assumption) (by assumption) (by assumption) (by rfl) (by kernel_rfl) (by kernel_rfl) (by kernel_rfl) (by kernel_rfl) (by rfl) (by kernel_rfl) ?_)
  | (refine G_cls (C := 388) (a := .int 5 604) (by assumption) (by assumption) (by assumption) (by assumption) (by rfl) (by kernel_rfl) (by kernel_rfl) (by kernel_rfl) (by kernel_rfl) (by rfl) (by kernel_rfl) ?_)
  | (refine G_cls (C := 410) (a := .int 6 605) (by assumption) (by assumption) (by assumption) (by assumption) (by rfl) (by kernel_rfl) (by kernel_rfl) (by kernel_rfl) (by kernel_rfl) (by rfl) (by kernel_rfl) ?_)
  | (refine G_cls (C := 431) (a := .int 7 606) (by assumption) (by assumption) (by assumption) (by assumption) (by rfl) (by kernel_rfl) (by kernel_rfl) (by kernel_rfl) (by kernel_rfl) (by rfl) (by kernel_rfl) ?_)))
local macro_rules | `(tactic| walk_at "gox") => `(tactic| repeat (first | walk_at "ms" | ((with_reducible show W _ (getAttr _ _ _) _ _ _); first | walk_at "own" | walk_at "kind")))

local macro_rules | `(tactic| walk_at "tup") => `(tactic| refine N_tuple (fun a ft => ?_) (szl (Nat.le_of_ble_eq_true rfl)))
section
variable {c : Cfg} {sc : Scope} {m : Mp} {H : Led} {P : Value → Mp → Led → Prop}
theorem bd_described2 {P : Params} {s : Shared} {x y : Value} (X : (kk P).In s.heap) : BindsTo s fd_described ⟨[x, y], []⟩ [(Str.ofString "node", x), (Str.ofString "depth", y)] :=
  binds_K (o := k455 P) X rfl (by kernel_rfl) rfl rfl (by kernel_rfl)
theorem bd_dl2 {P : Params} {s : Shared} {x y : Value} (X : (kk P).In s.heap) : BindsTo s fd_dl ⟨[x, y], []⟩ [(Str.ofString "items", x), (Str.ofString "depth", y)] :=
  binds_K (o := k461 P) X rfl (by kernel_rfl) rfl rfl (by kernel_rfl)
theorem bd_dl1 {P : Params} {s : Shared} {x : Value} (X : (kk P).In s.heap) : BindsTo s fd_dl ⟨[x], []⟩ [(Str.ofString "items", x), (Str.ofString "depth", .int 0 870)] :=
  binds_K (o := k461 P) X rfl (by kernel_rfl) rfl rfl (by kernel_rfl)
theorem check_depth_c {d : Int} {t : Tok} (f : Fn c sc) (r : Room c 1) (hd : d ≤ 60) (h : P .none m H) : W c (call (.ref 442) [.int d t]) m H P := by
  refine fn_check_depth (k := 0) f r [(Str.ofString "depth", .int d t)] (fun s _ => BindsTo.of_eq (by kernel_rfl)) (by kernel_rfl) ?_
  intro c' hw f' r' n'
  show W c' (execs (_ :: _) _) _ _ _
  walk_at "go"
  exact h
theorem dl0_c {it : Addr} {oi : Obj} {d : Int} {t : Tok} (f : Fn c sc) (r : Room c 1) (hm : (it, oi) ∈ H) (hl : IsL oi []) (h : ∀ a, P (.ref a) m ((a, tupOf []) :: H)) : W c (call (.ref 466) [.ref it, .int d t]) m H P := by
  refine W_post ?_
  refine fn_described_list (k := 0) (it := .ref it) (dv := .int d t) f r (fun s X => bd_dl2 X) ?_
  intro c' ce oc hw f' r' n' hC hdc fce
  have hm' : (it, oi) ∈ (ce, oc) :: H := .tail _ hm
  show W c' (execs (_ :: _) _) _ _ _
  walk_at "go"
  refine W_comp (cl := [(Str.ofString "depth", ce)]) f' (clos_depth rfl hC) (by decide) rfl (by decide) (by rfl) ?_
  walk_at "go"
  refine ⟨it, oi, [], fun i ys H' => ys = [] ∧ H' = (ce, oc) :: H, rfl, .inl hl, Nat.zero_le _, ⟨rfl, rfl⟩, fun i ys H' h => h.2 ▸ hm', fun i ys H' m' c₂ v hv => (nomatch hv), ?_⟩
  rintro ys _ a o' ⟨rfl, rfl⟩ hpl fa
  walk_at "go"
  refine B_tupleL (.head _) hpl.isL (Nat.zero_le _) fun b fb => ?_
  walk_at "go"
  exact ⟨(b, tupOf []) :: H, fun p hp => by rcases List.mem_cons.mp hp with rfl | q; exact .head _; exact .tail _ (.tail _ (.tail _ q)), h b⟩
theorem Rds.one {v : Value} {d : PyData} (h : Rd H v d) : Rds H [v] [d] := .cons h .nil
theorem described_c {v : Value} {n : Nd} {d : Int} {t : Tok} (f : Fn c sc) (r : Room c 3) (hn : NdAt H v n) (hd0 : d ≤ 50) (h : ∀ a H', (∀ p ∈ H, p ∈ H') → Rd H' (.ref a) n.datum → P (.ref a) m H') : W c (call (.ref 460) [v, .int d t]) m H P := by
  refine fn_described (k := 2) f r [(Str.ofString "node", v), (Str.ofString "depth", .int d t)] (fun s X => bd_described2 X) (by kernel_rfl) ?_
  intro c' hw f' r' n'
  show W c' (execs (_ :: _) _) _ _ _
  walk_at "go"
  refine check_depth_c f' (r'.le (by decide)) (by omega) ?_
  cases n with
  | box ht dp =>
    obtain ⟨it, oi, l, ol, t1, t2, t3, t4, t5, t6, t7, t8, t9, ⟨x, dx, od, rfl, h1, h2, hd⟩, hit, hoi, hll, hol⟩ := hn
    walk_at "gox"
    walk_at "tup"
    walk_at "go"
    refine N_tuple (fun b fb => ?_) (szl (Nat.le_of_ble_eq_true rfl))
    walk_at "go"
    refine V_addTR (.head _) .new (.tail _ (.head _)) .new (by simp) (by simp) (Nat.le_of_ble_eq_true rfl) fun e fe => ?_
    have h1' : ∀ {p : Addr × Obj}, p ∈ H → ∀ {x y z}, p ∈ x :: y :: z :: H := fun q => .tail _ (.tail _ (.tail _ q))
    walk_at "go"
    refine G_own (attr := none) f' (h1' h1) (h1' h2) hd (by rfl) (by kernel_rfl) (by kernel_rfl) (by kernel_rfl) rfl (by rfl) ?_
    walk_at "go"
    refine dl0_c f' (r'.le (by decide)) (h1' hit) hoi fun g => ?_
    walk_at "go"
    refine N_tuple (fun u fu => ?_) (szl (Nat.le_of_ble_eq_true rfl))
    walk_at "go"
    refine V_addTR (.tail _ (.tail _ (.head _))) .new (.head _) .new (by simp) (by simp) (Nat.le_of_ble_eq_true rfl) fun w fw => ?_
    walk_at "go"
    have up : ∀ p ∈ H, ∀ {x y z q r s}, p ∈ x :: y :: z :: q :: r :: s :: H := fun _ q => .tail _ (.tail _ (.tail _ (.tail _ (.tail _ (.tail _ q)))))
    refine h w _ (fun p hp => up p hp) (.tuple (.head _) .new ?_)
    exact .cons .int (.cons .int (.cons .int (.cons .int (.cons .int (.cons .int (.cons .int (.cons (.tuple (up _ hll) hol (.cons .int (.cons .int .nil))) (.cons (.tuple (.tail _ (.tail _ (.head _))) .new .nil) .nil))))))))
  | rule ht dp =>
    obtain ⟨t1, t2, ⟨x, dx, od, rfl, h1, h2, hd⟩⟩ := hn
    walk_at "gox"
    refine N_tuple (fun a ft => ?_) (szl (Nat.le_of_ble_eq_true rfl))
    walk_at "go"
    refine W_comp (cl := []) f' (by with_unfolding_all rfl) (by decide) rfl (by decide) (by rfl) ?_
    have h1' : (x, instObj 367 dx) ∈ (a, tupOf [.int 4 603]) :: H := .tail _ h1
    have h2' : (dx, od) ∈ (a, tupOf [.int 4 603]) :: H := .tail _ h2
    walk_at "gox"
    refine N_tuple (fun tp ftp => ?_) (szl (Nat.le_of_ble_eq_true rfl))
    refine ⟨tp, _, [.none, .int ht t1, .int dp t2], fun i ys H' => (∀ p ∈ (tp, tupOf [.none, .int ht t1, .int dp t2]) :: (a, tupOf [.int 4 603]) :: H, p ∈ H') ∧ Rds H' ys ([PyData.tuple [], .tuple [.int ht], .tuple [.int dp]].take i), rfl, .inr .new, szl (Nat.le_of_ble_eq_true rfl), ⟨fun p hp => hp, .nil⟩, fun i ys H' h => h.1 _ (.head _), ?_, ?_⟩
    · rintro i ys H' m' c₂ v hv ⟨hs, hy⟩ lk
      have f₂ := lk.fn f' rfl
      refine tests_nil (ift rfl ?_)
      match i, v, hv, hy with
      | 0, _, rfl, hy =>
        walk_at "go"
        refine N_tuple (fun b fb => ?_) (szl (Nat.le_of_ble_eq_true rfl))
        exact ⟨fun p hp => .tail _ (hs p hp), (hy.mono fun p hp => .tail _ hp).append (.one (.tuple (.head _) .new .nil))⟩
      | 1, _, rfl, hy =>
        walk_at "go"
        refine N_tuple (fun b fb => ?_) (szl (Nat.le_of_ble_eq_true rfl))
        exact ⟨fun p hp => .tail _ (hs p hp), (hy.mono fun p hp => .tail _ hp).append (.one (.tuple (.head _) .new (.one .int)))⟩
      | 2, _, rfl, hy =>
        walk_at "go"
        refine N_tuple (fun b fb => ?_) (szl (Nat.le_of_ble_eq_true rfl))
        exact ⟨fun p hp => .tail _ (hs p hp), (hy.mono fun p hp => .tail _ hp).append (.one (.tuple (.head _) .new (.one .int)))⟩
      | n + 3, _, h, _ => cases h
    · rintro ys H' b o' ⟨hs, hy⟩ hpl fb
      have hlen : ys.length = 3 := hy.length
      walk_at "go"
      refine B_tupleL (.head _) hpl.isL (szl (by omega)) fun g fg => ?_
      walk_at "go"
      refine V_addTR (.tail _ (.tail _ (hs _ (.tail _ (.head _))))) .new (.head _) .new (by simp) (by intro q; rw [q] at hlen; cases hlen) (by rw [hlen]; exact Nat.le_of_ble_eq_true rfl) fun e fe => ?_
      walk_at "go"
      refine h e _ (fun p hp => .tail _ (.tail _ (.tail _ (hs p (.tail _ (.tail _ hp)))))) (.tuple (.head _) .new ?_)
      exact .cons .int (hy.mono fun p hp => .tail _ (.tail _ (.tail _ hp)))
  | kern w =>
    obtain ⟨t1, t2, ⟨x, dx, od, rfl, h1, h2, hd⟩⟩ := hn
    walk_at "gox"
    walk_at "tup"
    walk_at "go"
    exact h _ _ (fun p hp => .tail _ hp) (.tuple (.head _) .new (.cons .int (.cons .int (.cons .int .nil))))
  | skip w st sh s =>
    obtain ⟨g, t, ⟨x, dx, od, rfl, h1, h2, hd⟩, hg⟩ := hn
    obtain ⟨_, dg, og, e, hg1, hg2, u1, u2, u3, u4, u5, hgD⟩ := id hg
    cases e
    walk_at "gox"
    refine M_inst (fa := 192) f' hg1 hg2 hgD (by rfl) (by kernel_rfl) (by kernel_rfl) (by kernel_rfl) ?_
    walk_at "go"
    refine Glue_parts_c f' (r'.le (by decide)) hg fun a vs fa hvs => ?_
    have h1' : (x, instObj 410 dx) ∈ (a, tupOf vs) :: H := .tail _ h1
    have h2' : (dx, od) ∈ (a, tupOf vs) :: H := .tail _ h2
    walk_at "gox"
    refine N_tuple (fun b fb => ?_) (szl (Nat.le_of_ble_eq_true rfl))
    walk_at "go"
    refine N_tuple (fun e fe => ?_) (szl (Nat.le_of_ble_eq_true rfl))
    walk_at "go"
    refine h e _ (fun p hp => .tail _ (.tail _ (.tail _ hp))) (.tuple (.head _) .new ?_)
    exact .cons .int (.cons (.tuple (.tail _ (.tail _ (.head _))) .new (hvs.mono fun p hp => .tail _ (.tail _ (.tail _ hp)))) (.cons .int (.cons (.tuple (.tail _ (.head _)) .new .nil) .nil)))
  | pen n =>
    obtain ⟨t, ⟨x, dx, od, rfl, h1, h2, hd⟩⟩ := hn
    walk_at "gox"
    walk_at "tup"
    walk_at "go"
    exact h _ _ (fun p hp => .tail _ hp) (.tuple (.head _) .new (.cons .int (.cons .int .nil)))
end

-- MG1
inductive Nds (H : Led) : List Value → List Nd → Prop
  | nil : Nds H [] []
  | cons {v vs n ns} : NdAt H v n → Nds H vs ns → Nds H (v :: vs) (n :: ns)
theorem Nds.mono {H H' : Led} (k : ∀ p ∈ H, p ∈ H') : ∀ {vs ns}, Nds H vs ns → Nds H' vs ns
  | _, _, .nil => .nil
  | _, _, .cons a b => .cons (a.mono k) (Nds.mono k b)
theorem Nds.length {H : Led} : ∀ {vs ns}, Nds H vs ns → vs.length = ns.length
  | _, _, .nil => rfl
  | _, _, .cons _ b => by simp [Nds.length b]
theorem Nds.append {H : Led} : ∀ {vs ns ws ms}, Nds H vs ns → Nds H ws ms → Nds H (vs ++ ws) (ns ++ ms)
  | _, _, _, _, .nil, h => h
  | _, _, _, _, .cons a b, h => .cons a (Nds.append b h)
theorem Nds.one {H : Led} {v : Value} {n : Nd} (h : NdAt H v n) : Nds H [v] [n] := .cons h .nil
theorem Nds.get {H : Led} : ∀ {vs ns} {i : Nat} {v : Value}, Nds H vs ns → vs[i]? = some v → ∃ n, ns[i]? = some n ∧ NdAt H v n
  | _, _, i, _, .nil, h => nomatch h
  | _, _, 0, _, .cons a b, h => by cases h; exact ⟨_, rfl, a⟩
  | _, _, i + 1, _, .cons a b, h => Nds.get (i := i) b h
theorem take_next {α : Type} {l : List α} {i : Nat} {a : α} (h : l[i]? = some a) : l.take (i + 1) = l.take i ++ [a] := by rw [List.take_add_one, h]; rfl
set_option maxHeartbeats 4000000
section
variable {c : Cfg} {sc : Scope} {m : Mp} {H : Led} {P : Value → Mp → Led → Prop}
theorem dl_c {D : Addr} {o : Obj} {vs : List Value} {ns : List Nd} (f : Fn c sc) (r : Room c 4) (hm : (D, o) ∈ H) (hl : IsL o vs) (hn : Nds H vs ns) (hz : vs.length ≤ 1000) (h : ∀ a H', (∀ p ∈ H, p ∈ H') → Rd H' (.ref a) (.tuple (ns.map Nd.datum)) → P (.ref a) m H') :
    W c (call (.ref 466) [.ref D]) m H P := by
  refine fn_described_list (k := 3) (it := .ref D) (dv := .int 0 870) f r (fun s X => bd_dl1 X) ?_
  intro c' ce oc hw f' r' n' hC hdc fce
  have hm' : (D, o) ∈ (ce, oc) :: H := .tail _ hm
  show W c' (execs (_ :: _) _) _ _ _
  walk_at "go"
  refine W_comp (cl := [(Str.ofString "depth", ce)]) f' (clos_depth rfl hC) (by decide) rfl (by decide) (by rfl) ?_
  walk_at "go"
  refine ⟨D, o, vs, fun i ys H' => (∀ p ∈ (ce, oc) :: H, p ∈ H') ∧ Rds H' ys ((ns.map Nd.datum).take i), rfl, .inl hl, szl hz, ⟨fun p hp => hp, .nil⟩, fun i ys H' h => h.1 _ hm', ?_, ?_⟩
  · rintro i ys H' m' c₂ v hv ⟨hs, hy⟩ lk
    have f₂ := lk.fn f' rfl
    have r₂ := lk.room r'
    obtain ⟨n, hni, hnv⟩ := hn.get hv
    refine tests_nil (ift rfl ?_)
    walk_at "go"
    refine W_cell (ce := ce) (oc := oc) f₂ (by kernel_rfl) (by rw [lk.cells]; rfl) (hs _ (.head _)) hdc ?_ (by decide +kernel)
    walk_at "go"
    refine described_c f₂ r₂ (hnv.mono fun p hp => hs p (.tail _ hp)) (by decide) fun a H₂ hs₂ hr => ?_
    refine ⟨fun p hp => hs₂ p (hs p hp), ?_⟩
    rw [take_next (a := n.datum) (by rw [List.getElem?_map, hni]; rfl)]
    exact (hy.mono hs₂).append (.one hr)
  · rintro ys H' a o' ⟨hs, hy⟩ hpl fa
    have hlen : vs.length = ns.length := hn.length
    rw [List.take_of_length_le (by rw [List.length_map]; omega)] at hy
    have hyl : ys.length = vs.length := by rw [hy.length, List.length_map, hlen]
    walk_at "go"
    refine B_tupleL (.head _) hpl.isL (szl (by omega)) fun b fb => ?_
    walk_at "go"
    exact h b _ (fun p hp => .tail _ (.tail _ (hs p (.tail _ hp)))) (.tuple (.head _) .new (hy.mono fun p hp => .tail _ (.tail _ hp)))
end

-- MG2
theorem Nd.kinds (n : Nd) : n.kind = 2 ∨ n.kind = 4 ∨ n.kind = 5 ∨ n.kind = 6 ∨ n.kind = 7 := by cases n <;> simp [Nd.kind]
structure TotOk (x dx l1 l2 : Addr) (G : Led) : Prop where
  hx : (x, instObj 301 dx) ∈ G
  ap : ∀ p ∈ G, p.1 ≠ dx ∧ p.1 ≠ l1 ∧ p.1 ≠ l2
  d1 : dx ≠ l1
  d2 : dx ≠ l2
  d3 : l1 ≠ l2
inductive TotD (l1 l2 : Addr) (od : Obj) (n : Int) : Prop
  | mk (t : Tok) (h : IsD od (totF (.int n t) (.ref l1) (.ref l2))) : TotD l1 l2 od n
inductive FourL (o : Obj) (n : Int) : Prop
  | mk (v : List Value) (h : IsL o v) (f : four n 0 0 0 v) : FourL o n
structure TotV (l1 l2 : Addr) (od o1 o2 : Obj) (n st sh : Int) : Prop where
  d : TotD l1 l2 od n
  a : FourL o1 st
  b : FourL o2 sh
local macro_rules | `(tactic| walk_at "mem") => `(tactic| first | assumption | exact .head _ | exact .tail _ (.head _) | exact .tail _ (.tail _ (.head _)) | exact .tail _ (by assumption) | exact .tail _ (.tail _ (by assumption)) | exact .tail _ (.tail _ (.tail _ (by assumption))) | exact .tail _ (.tail _ (.tail _ (.tail _ (by assumption)))) | exact .tail _ (.tail _ (.tail _ (.tail _ (.tail _ (by assumption))))) | exact .tail _ (.tail _ (.tail _ (.head _))))
local macro_rules | `(tactic| walk_at "led") => `(tactic| (intro p hp; simp only [List.mem_cons] at hp ⊢; grind))
local macro_rules | `(tactic| walk_at "kn") => `(tactic| first | assumption | exact Kn.refl | (refine Kn.of ?_; repeat (first | exact .nil | refine .cons (by rfl) ?_)))
local macro_rules | `(tactic| walk_at "set") => `(tactic| (refine P_attrH (by assumption) (by walk_at "mem") (by assumption) (by assumption) (by kernel_rfl) (by kernel_rfl) (by kernel_rfl) (by kernel_rfl) (Nat.le_of_ble_eq_true (by kernel_rfl)) ?_; intro _ _))
local macro_rules | `(tactic| walk_at "own") => `(tactic| (refine G_own (attr := none) (by assumption) (by walk_at "mem") (by walk_at "mem") (by assumption) (by rfl) (by kernel_rfl) (by kernel_rfl) (by kernel_rfl) rfl (by rfl) ?_))
local macro_rules | `(tactic| walk_at "gok") => `(tactic| repeat (first | walk_at "ms" | ((with_reducible show W _ (getAttr _ (Str.ofString "kind") _) _ _ _); refine kind_c (by assumption) (by assumption) ?_)))
local macro_rules | `(tactic| walk_at "goo") => `(tactic| repeat (first | walk_at "ms" | ((with_reducible show W _ (getAttr _ _ _) _ _ _); walk_at "own")))
local macro_rules | `(tactic| walk_at "kind") => `(tactic| (first
  | (refine G_cls (C := 367) (a := .int 4 603) (by assumption) (by walk_at "mem") (by walk_at "mem") (by assumption) (by rfl) (by kernel_rfl) (by kernel_rfl) (by kernel_rfl) (by kernel_rfl) (by rfl) (by kernel_rfl) ?_)
  | (refine G_cls (C := 388) (a := .int 5 604) (by assumption) (by walk_at "mem") (by walk_at "mem") (by assumption) (by rfl) (by kernel_rfl) (by kernel_rfl) (by kernel_rfl) (by kernel_rfl) (by rfl) (by kernel_rfl) ?_)
  | (refine G_cls (C := 410) (a := .int 6 605) (by assumption) (by walk_at "mem") (by walk_at "mem") (by assumption) (by rfl) (by kernel_rfl) (by kernel_rfl) (by kernel_rfl) (by kernel_rfl) (by rfl) (by kernel_rfl) ?_)
  | (refine G_cls (C := 431) (a := .int 7 606) (by assumption) (by walk_at "mem") (by walk_at "mem") (by assumption) (by rfl) (by kernel_rfl) (by kernel_rfl) (by kernel_rfl) (by kernel_rfl) (by rfl) (by kernel_rfl) ?_)))
local macro_rules | `(tactic| walk_at "gox") => `(tactic| repeat (first | walk_at "ms" | ((with_reducible show W _ (getAttr _ _ _) _ _ _); first | walk_at "own" | walk_at "kind")))
local macro_rules | `(tactic| walk_at "goe") => `(tactic| repeat ((fail_if_success (with_reducible show W _ (exec _ _) _ _ _)); walk_at "ms"))
local macro_rules | `(tactic| walk_at "gos") => `(tactic| repeat ((fail_if_success (with_reducible show W _ (eval (.Subscript _ (.Slice _ _ _ _) _) _) _ _ _)); walk_at "ms"))

set_option maxHeartbeats 4000000
section
variable {c : Cfg} {sc : Scope} {m : Mp} {H : Led} {P : Value → Mp → Led → Prop}
theorem check_column_c {D : Addr} {o : Obj} {vs : List Value} {ns : List Nd} (f : Fn c sc) (r : Room c 1) (hm : (D, o) ∈ H) (hl : IsL o vs) (hn : Nds H vs ns) (h : P .none m H) : W c (call (.ref 524) [.ref D]) m H P := by
  refine fn_check_column (k := 0) f r [(Str.ofString "items", .ref D)] (fun s _ => BindsTo.of_eq (by kernel_rfl)) (by kernel_rfl) ?_
  intro c' hw f' r' n'
  show W c' (execs (_ :: _) _) _ _ _
  refine S_seq ?_
  refine W_for f' ?_
  walk_at "go"
  refine ⟨D, o, vs, fun i m' H' => H' = H, rfl, .inl hl, rfl, fun i m' H' h => h ▸ hm, ?_, .inl fun _ _ => rfl, ?_⟩
  · rintro i m' _ c₂ v hv rfl lk
    have f₂ := lk.fn f'
    obtain ⟨n, hni, hnv⟩ := hn.get hv
    have hk := n.kinds
    walk_at "gok"
    rfl
  · rintro m' _ rfl
    walk_at "go"
    exact h
theorem widen_c {x dx l1 l2 : Addr} {od o1 o2 : Obj} {n st sh k : Int} {t : Tok} {G : Led} (f : Fn c sc) (r : Room c 1) (T : TotOk x dx l1 l2 G) (V : TotV l1 l2 od o1 o2 n st sh)
    (h : ∀ od', TotV l1 l2 od' o1 o2 (n + k) st sh → P .none m ((dx, od') :: (l1, o1) :: (l2, o2) :: G)) : W c (call (.ref 277) [.ref x, .int k t]) m ((dx, od) :: (l1, o1) :: (l2, o2) :: G) P := by
  refine fn_Totals_widen (k := 0) f r [(Str.ofString "self", .ref x), (Str.ofString "width", .int k t)] (fun s _ => BindsTo.of_eq (by kernel_rfl)) (by kernel_rfl) ?_
  intro c' hw f' r' n'
  obtain ⟨hx, ap, d1, d2, d3⟩ := T
  obtain ⟨⟨tn, hd⟩, ha, hb⟩ := V
  have fr : ∀ p ∈ (l1, o1) :: (l2, o2) :: G, p.1 ≠ dx := by walk_at "led"
  show W c' (execs (_ :: _) _) _ _ _
  walk_at "goo"
  rename_i tt
  walk_at "set"
  walk_at "go"
  exact h _ ⟨⟨tt, IsD.cast (by assumption) (by kernel_rfl)⟩, ha, hb⟩
theorem add_c {x dx l1 l2 : Addr} {od o1 o2 : Obj} {n st sh : Int} {G : Led} {g : Addr} {w a b : Int} (f : Fn c sc) (r : Room c 1) (T : TotOk x dx l1 l2 G) (V : TotV l1 l2 od o1 o2 n st sh) (hg : GlueAt G (.ref g) w a b)
    (h : ∀ od' o1' o2', TotV l1 l2 od' o1' o2' (n + w) (st + a) (sh + b) → P .none m ((dx, od') :: (l1, o1') :: (l2, o2') :: G)) : W c (call (.ref 270) [.ref x, .ref g]) m ((dx, od) :: (l1, o1) :: (l2, o2) :: G) P := by
  refine fn_Totals_add (k := 0) f r [(Str.ofString "self", .ref x), (Str.ofString "glue", .ref g)] (fun s _ => BindsTo.of_eq (by kernel_rfl)) (by kernel_rfl) ?_
  intro c' hw f' r' n'
  obtain ⟨hx, ap, d1, d2, d3⟩ := T
  obtain ⟨⟨tn, hd⟩, ⟨v1, ha, s1, s2, s3, s4, rfl⟩, ⟨v2, hb, s5, s6, s7, s8, rfl⟩⟩ := V
  obtain ⟨_, dg, og, e, hg1, hg2, u1, u2, u3, u4, u5, hgD⟩ := hg
  cases e
  have fr : ∀ p ∈ (l1, o1) :: (l2, o2) :: G, p.1 ≠ dx := by walk_at "led"
  show W c' (execs (_ :: _) _) _ _ _
  walk_at "goo"
  rename_i tt
  walk_at "set"
  rename_i od' hd'
  have hd2 : IsD od' (totF (.int (n + w) tt) (.ref l1) (.ref l2)) := IsD.cast (by assumption) (by kernel_rfl)
  clear hd'
  walk_at "goo"
  refine G_item (.tail _ (.head _)) ha (by decide) rfl ?_ (by decide)
  walk_at "goo"
  rename_i t2
  refine P_item (.tail _ (.head _)) ha (by decide) (Int.ofNat_lt.mpr (Nat.le_of_ble_eq_true rfl)) (by decide) fun o1' h1' => ⟨(dx, od') :: (l1, o1') :: (l2, o2) :: G, by walk_at "led", ?_⟩
  walk_at "goo"
  refine G_item (.tail _ (.tail _ (.head _))) hb (by decide) rfl ?_ (by decide)
  walk_at "goo"
  rename_i t3
  refine P_item (.tail _ (.tail _ (.head _))) hb (by decide) (Int.ofNat_lt.mpr (Nat.le_of_ble_eq_true rfl)) (by decide) fun o2' h2' => ⟨(dx, od') :: (l1, o1') :: (l2, o2') :: G, by walk_at "led", ?_⟩
  walk_at "go"
  exact h _ _ _ ⟨⟨_, hd2⟩, ⟨_, h1', _, _, _, _, rfl⟩, ⟨_, h2', _, _, _, _, rfl⟩⟩
theorem stretch_top_c {x dx l1 l2 : Addr} {od o1 o2 : Obj} {n st sh : Int} {G : Led} (f : Fn c sc) (r : Room c 2) (T : TotOk x dx l1 l2 G) (V : TotV l1 l2 od o1 o2 n st sh)
    (h : ∀ t, P (.int 0 t) m ((dx, od) :: (l1, o1) :: (l2, o2) :: G)) : W c (call (.ref 284) [.ref x]) m ((dx, od) :: (l1, o1) :: (l2, o2) :: G) P := by
  refine fn_Totals_stretch_top (k := 1) f r [(Str.ofString "self", .ref x)] (fun s _ => BindsTo.of_eq (by kernel_rfl)) (by kernel_rfl) ?_
  intro c' hw f' r' n'
  obtain ⟨hx, ap, d1, d2, d3⟩ := T
  obtain ⟨⟨tn, hd⟩, ⟨v1, ha, ha4⟩, hb⟩ := V
  show W c' (execs (_ :: _) _) _ _ _
  walk_at "goo"
  refine top_order_c f' r' (.tail _ (.head _)) ha ha4 fun t => ?_
  walk_at "go"
  exact h _
theorem shrink_top_c {x dx l1 l2 : Addr} {od o1 o2 : Obj} {n st sh : Int} {G : Led} (f : Fn c sc) (r : Room c 2) (T : TotOk x dx l1 l2 G) (V : TotV l1 l2 od o1 o2 n st sh)
    (h : ∀ t, P (.int 0 t) m ((dx, od) :: (l1, o1) :: (l2, o2) :: G)) : W c (call (.ref 291) [.ref x]) m ((dx, od) :: (l1, o1) :: (l2, o2) :: G) P := by
  refine fn_Totals_shrink_top (k := 1) f r [(Str.ofString "self", .ref x)] (fun s _ => BindsTo.of_eq (by kernel_rfl)) (by kernel_rfl) ?_
  intro c' hw f' r' n'
  obtain ⟨hx, ap, d1, d2, d3⟩ := T
  obtain ⟨⟨tn, hd⟩, ha, ⟨v2, hb, hb4⟩⟩ := V
  show W c' (execs (_ :: _) _) _ _ _
  walk_at "goo"
  refine top_order_c f' r' (.tail _ (.tail _ (.head _))) hb hb4 fun t => ?_
  walk_at "go"
  exact h _
end

-- MG3
noncomputable def envS (sc : Scope) : Env := { scope := sc, locals := 0, globals := 0, cells := [], qual := Str.ofString "", func := none, code := .none, frame := none, builtins := 0 }
theorem sw_scope {ts : List Expr} {v : Expr} {env : Env} {sc : Scope} (h : env.scope = sc) : swappedStores ts v env = swappedStores ts v (envS sc) := by
  subst h
  rfl
structure NS where
  n : Int
  st : Int
  sh : Int
  wd : Int
  dp : Int
noncomputable def NS.step (s : NS) : Nd → NS
  | .box h d => ⟨s.n + (s.dp + h), s.st, s.sh, max s.wd 3, d⟩
  | .rule h d => ⟨s.n + (s.dp + h), s.st, s.sh, max s.wd 0, d⟩
  | .kern w => ⟨s.n + (s.dp + w), s.st, s.sh, max s.wd 0, 0⟩
  | .skip w a b _ => ⟨s.n + s.dp + w, s.st + a, s.sh + b, max s.wd 0, 0⟩
  | .pen _ => ⟨s.n, s.st, s.sh, max s.wd 0, s.dp⟩
noncomputable def natF (ns : List Nd) : NS := ns.foldl NS.step ⟨0, 0, 0, 0, 0⟩
theorem natF_next {ns : List Nd} {i : Nat} {n : Nd} (h : ns[i]? = some n) : natF (ns.take (i + 1)) = (natF (ns.take i)).step n := by
  rw [take_next h]; unfold natF; rw [List.foldl_append]; rfl
inductive NatJ (D x dx l1 l2 : Addr) (G : Led) (z : NS) (m' : Mp) (H' : Led) : Prop
  | mk (od o1 o2 : Obj) (tw td : Tok) (kn : Kn [(Str.ofString "depth", .int z.dp td), (Str.ofString "width", .int z.wd tw), (Str.ofString "totals", .ref x), (Str.ofString "items", .ref D)] m') (e : H' = (dx, od) :: (l1, o1) :: (l2, o2) :: G) (h : TotV l1 l2 od o1 o2 z.n z.st z.sh) : NatJ D x dx l1 l2 G z m' H'
set_option maxHeartbeats 4000000
section
variable {c : Cfg} {sc : Scope} {m : Mp} {H : Led} {P : Value → Mp → Led → Prop}
theorem tot_widen {x dx l1 l2 : Addr} {od o1 o2 : Obj} {n st sh : Int} {G : Led} {pl : Sem Bool} {P : Value × List Value → Mp → Led → Prop} (f : Fn c sc) (T : TotOk x dx l1 l2 G) (V : TotV l1 l2 od o1 o2 n st sh)
    (h : P (.ref 277, [.ref x]) m ((dx, od) :: (l1, o1) :: (l2, o2) :: G)) : W c (getMethod (.ref x) (Str.ofString "widen") pl) m ((dx, od) :: (l1, o1) :: (l2, o2) :: G) P := by
  obtain ⟨⟨tn, hd⟩, _, _⟩ := V
  exact M_inst (fa := 277) f (.tail _ (.tail _ (.tail _ T.hx))) (.head _) hd (by rfl) (by kernel_rfl) (by kernel_rfl) (by kernel_rfl) h
theorem tot_add {x dx l1 l2 : Addr} {od o1 o2 : Obj} {n st sh : Int} {G : Led} {pl : Sem Bool} {P : Value × List Value → Mp → Led → Prop} (f : Fn c sc) (T : TotOk x dx l1 l2 G) (V : TotV l1 l2 od o1 o2 n st sh)
    (h : P (.ref 270, [.ref x]) m ((dx, od) :: (l1, o1) :: (l2, o2) :: G)) : W c (getMethod (.ref x) (Str.ofString "add") pl) m ((dx, od) :: (l1, o1) :: (l2, o2) :: G) P := by
  obtain ⟨⟨tn, hd⟩, _, _⟩ := V
  exact M_inst (fa := 270) f (.tail _ (.tail _ (.tail _ T.hx))) (.head _) hd (by rfl) (by kernel_rfl) (by kernel_rfl) (by kernel_rfl) h
theorem natural_column_c {D : Addr} {o : Obj} {vs : List Value} {ns : List Nd} (f : Fn c sc) (r : Room c 5) (hh : Hn c) (hm : (D, o) ∈ H) (hl : IsL o vs) (hn : Nds H vs ns)
    (h : ∀ x dx l1 l2 od o1 o2 G t ot tw td, (∀ p ∈ H, p ∈ G) → TotOk x dx l1 l2 G → TotV l1 l2 od o1 o2 (natF ns).n (natF ns).st (natF ns).sh → (t, ot) ∈ G → IsT ot [.ref x, .int (natF ns).wd tw, .int (natF ns).dp td] →
      P (.ref t) m ((dx, od) :: (l1, o1) :: (l2, o2) :: G)) : W c (call (.ref 531) [.ref D]) m H P := by
  refine W_post ?_
  refine fn_natural_column (k := 4) f r [(Str.ofString "items", .ref D)] (fun s _ => BindsTo.of_eq (by kernel_rfl)) (by kernel_rfl) ?_
  intro c' hw f' r' n'
  have hh' := n' hh
  show W c' (execs (_ :: _) _) _ _ _
  walk_at "go"
  refine check_column_c f' (r'.le (by decide)) hm hl hn ?_
  walk_at "go"
  refine mk_Totals_c f' r' fun x dx l1 l2 od o1 o2 v1 v2 t ap a1 a2 a3 a4 a5 a6 hd h1 h2 q1 q2 => ?_
  have T : TotOk x dx l1 l2 ((x, instObj 301 dx) :: H) := ⟨.head _, fun p hp => by
    rcases List.mem_cons.mp hp with rfl | hp
    · exact ⟨a1, a3.symm, a5.symm⟩
    · exact ⟨(ap p hp).2.1, (ap p hp).2.2.1, (ap p hp).2.2.2⟩, a2.symm, a4.symm, a6⟩
  have V : TotV l1 l2 od o1 o2 0 0 0 := ⟨⟨_, hd⟩, ⟨_, h1, q1⟩, ⟨_, h2, q2⟩⟩
  refine W_sub (H' := (dx, od) :: (l1, o1) :: (l2, o2) :: (x, instObj 301 dx) :: H) (by walk_at "led") ?_
  walk_at "go"
  refine S_assignT ?_ (by with_unfolding_all rfl) (by rw [sw_scope f'.scope]; kernel_rfl)
  walk_at "go"
  rename_i tw0 td0
  refine N_tuple (fun tp ftp => ?_) (szl (Nat.le_of_ble_eq_true rfl))
  refine A_tup hh' (.head _) .new rfl ?_
  refine W_sub (H' := (dx, od) :: (l1, o1) :: (l2, o2) :: (x, instObj 301 dx) :: H) (fun p hp => .tail _ hp) ?_
  show W _ (assignInOrder [assign (.Name _ _) c'.env, assign (.Name _ _) c'.env] _) _ _ _
  walk_at "go"
  have base : (D, o) ∈ (x, instObj 301 dx) :: H := .tail _ hm
  have hnG : Nds ((x, instObj 301 dx) :: H) vs ns := hn.mono fun p hp => .tail _ hp
  have subG : ∀ p ∈ H, p ∈ (x, instObj 301 dx) :: H := fun p hp => .tail _ hp
  clear ap a1 a2 a3 a4 a5 a6 hd h1 h2 q1 q2 hn hm ftp
  generalize (x, instObj 301 dx) :: H = G at *
  refine W_for f' ?_
  walk_at "go"
  refine ⟨D, o, vs, fun i m' H' => NatJ D x dx l1 l2 G (natF (ns.take i)) m' H', rfl, .inl hl, ⟨od, o1, o2, tw0, td0, Kn.refl, rfl, V⟩, ?_, ?_, .inl fun _ _ => rfl, ?_⟩
  · rintro i m' H' ⟨od, o1, o2, tw, td, kn, rfl, V⟩
    exact .tail _ (.tail _ (.tail _ base))
  · rintro i m' H' c₂ v hv ⟨od, o1, o2, tw, td, kn, rfl, V⟩ lk
    have f₂ := lk.fn f'
    have r₂ := lk.room r'
    have hh₂ := lk.hn hh'
    obtain ⟨n, hni, hnv⟩ := hnG.get hv
    try dsimp only
    rw [natF_next hni]
    generalize natF (ns.take i) = z at *
    refine W_know kn ?_
    have up : ∀ {a b e}, NdAt (a :: b :: e :: G) v n := hnv.mono fun p hp => .tail _ (.tail _ (.tail _ hp))
    walk_at "go"
    refine across_c f₂ (r₂.le (by decide)) up fun ta => ?_
    cases n with
    | box ht dp =>
      obtain ⟨it, oi, l, ol, t1, t2, t3, t4, t5, t6, t7, t8, t9, ⟨xb, db, ob, rfl, h1, h2, hd⟩, _⟩ := id hnv
      walk_at "gox"
      refine tot_widen f₂ T V ?_
      walk_at "gox"
      refine height_of_c (n := .box ht dp) f₂ (r₂.le (by decide)) up fun th => ?_
      walk_at "gox"
      refine widen_c f₂ (r₂.le (by decide)) T V fun od' V' => ?_
      walk_at "gox"
      refine depth_of_c (n := .box ht dp) f₂ (r₂.le (by decide)) up fun te => ?_
      walk_at "go"
      exact ⟨od', o1, o2, _, te, by walk_at "kn", rfl, V'⟩
    | rule ht dp =>
      obtain ⟨t1, t2, ⟨xb, db, ob, rfl, h1, h2, hd⟩⟩ := id hnv
      walk_at "gox"
      refine tot_widen f₂ T V ?_
      walk_at "gox"
      refine height_of_c (n := .rule ht dp) f₂ (r₂.le (by decide)) up fun th => ?_
      walk_at "gox"
      refine widen_c f₂ (r₂.le (by decide)) T V fun od' V' => ?_
      walk_at "gox"
      refine depth_of_c (n := .rule ht dp) f₂ (r₂.le (by decide)) up fun te => ?_
      walk_at "go"
      exact ⟨od', o1, o2, _, te, by walk_at "kn", rfl, V'⟩
    | kern w =>
      obtain ⟨t1, t2, ⟨xb, db, ob, rfl, h1, h2, hd⟩⟩ := id hnv
      walk_at "gox"
      refine tot_widen f₂ T V ?_
      walk_at "gox"
      refine widen_c f₂ (r₂.le (by decide)) T V fun od' V' => ?_
      walk_at "gox"
      exact ⟨od', o1, o2, _, _, by walk_at "kn", rfl, V'⟩
    | skip w a b s =>
      obtain ⟨g, t, ⟨xb, db, ob, rfl, h1, h2, hd⟩, hg⟩ := id hnv
      walk_at "gox"
      refine tot_widen f₂ T V ?_
      walk_at "gox"
      refine widen_c f₂ (r₂.le (by decide)) T V fun od' V' => ?_
      walk_at "gox"
      refine tot_add f₂ T V' ?_
      walk_at "gox"
      refine add_c f₂ (r₂.le (by decide)) T V' hg fun od2 o12 o22 V2 => ?_
      walk_at "gox"
      exact ⟨od2, o12, o22, _, _, by walk_at "kn", rfl, V2⟩
    | pen k =>
      obtain ⟨t, ⟨xb, db, ob, rfl, h1, h2, hd⟩⟩ := id hnv
      walk_at "gox"
      exact ⟨od, o1, o2, _, td, by walk_at "kn", rfl, V⟩
  · rintro m' H' ⟨od, o1, o2, tw, td, kn, rfl, V⟩
    rw [List.take_of_length_le (by rw [hnG.length]; exact Nat.le_refl _)] at kn V
    refine Seq_next (W_know kn ?_)
    walk_at "go"
    refine N_tuple (fun t ft => ?_) (szl (Nat.le_of_ble_eq_true rfl))
    walk_at "go"
    have T' : TotOk x dx l1 l2 ((t, tupOf [.ref x, .int (natF ns).wd tw, .int (natF ns).dp td]) :: G) := ⟨.tail _ T.hx, fun p hp => by
      rcases List.mem_cons.mp hp with rfl | hp
      · exact ⟨(ft (dx, od) (.head _)).symm, (ft (l1, o1) (.tail _ (.head _))).symm, (ft (l2, o2) (.tail _ (.tail _ (.head _)))).symm⟩
      · exact T.ap p hp, T.d1, T.d2, T.d3⟩
    exact ⟨_, by walk_at "led", h x dx l1 l2 od o1 o2 _ t _ tw td (fun p hp => .tail _ (subG p hp)) T' V (.head _) .new⟩
end

-- MG4
noncomputable def flexI (sg st sh : Int) : Int := if sg = 1 then st else if sg = 2 then -sh else 0
inductive BoxG (od : Obj) (k w h d sg : Int) (it l : Addr) : Prop
  | mk (t1 t2 t3 t4 t5 t6 t7 : Tok) (hd : IsD od (boxF (.int k t1) (.int w t2) (.int h t3) (.int d t4) (.ref it) (.int 0 t5) (.int sg t6) (.int 0 t7) (.ref l))) : BoxG od k w h d sg it l
/-- a box as it lies: its dict, its list of items, its ratio -/
structure BoxOk (H : Led) (x dx : Addr) (od : Obj) (k w h d sg : Int) (it l : Addr) : Prop where
  hx : (x, instObj 346 dx) ∈ H
  hd : (dx, od) ∈ H
  g : BoxG od k w h d sg it l
set_option maxHeartbeats 4000000
section
variable {c : Cfg} {sc : Scope} {m : Mp} {H : Led} {P : Value → Mp → Led → Prop}
theorem flex_c {x dx : Addr} {od : Obj} {k w h d sg : Int} {it l g : Addr} {gw st sh : Int} (f : Fn c sc) (r : Room c 1) (B : BoxOk H x dx od k w h d sg it l) (hg : GlueAt H (.ref g) gw st sh) (hs : sg = 0 ∨ sg = 1 ∨ sg = 2)
    (hP : ∀ t, P (.int (flexI sg st sh) t) m H) : W c (call (.ref 552) [.ref x, .ref g]) m H P := by
  obtain ⟨hx, hd, t1, t2, t3, t4, t5, t6, t7, hD⟩ := B
  obtain ⟨_, dg, og, e, hg1, hg2, u1, u2, u3, u4, u5, hgD⟩ := hg
  cases e
  refine fn_flex (k := 0) f r [(Str.ofString "box", .ref x), (Str.ofString "glue", .ref g)] (fun s _ => BindsTo.of_eq (by kernel_rfl)) (by kernel_rfl) ?_
  intro c' hw f' r' n'
  show W c' (execs (_ :: _) _) _ _ _
  rcases hs with rfl | rfl | rfl
  all_goals
    walk_at "goo"
    exact hP _
theorem set_part_c {x dx : Addr} {od : Obj} {k w h d sg : Int} {it l : Addr} {ol : Obj} {a b fl : Int} {ta tb tf : Tok} (f : Fn c sc) (r : Room c 2) (B : BoxOk H x dx od k w h d sg it l) (hl : (l, ol) ∈ H) (ho : IsT ol [.int a ta, .int b tb]) (hb : 0 < b) (hb2 : b ≤ 2 ^ 60)
    (ha : -(2 ^ 63) ≤ a ∧ a ≤ 2 ^ 63) (hP : ∀ t, P (.int (roundI (a * fl) b) t) m H) : W c (call (.ref 559) [.ref x, .int fl tf]) m H P := by
  obtain ⟨hx, hd, t1, t2, t3, t4, t5, t6, t7, hD⟩ := B
  refine fn_set_part (k := 1) f r [(Str.ofString "box", .ref x), (Str.ofString "flexed", .int fl tf)] (fun s _ => BindsTo.of_eq (by kernel_rfl)) (by kernel_rfl) ?_
  intro c' hw f' r' n'
  show W c' (execs (_ :: _) _) _ _ _
  walk_at "goo"
  refine X_tup hl ho (k := 0) (j := 0) rfl rfl ?_
  walk_at "goo"
  refine V_mulL ?_ ha
  walk_at "goo"
  refine X_tup hl ho (k := 1) (j := 1) rfl rfl ?_
  walk_at "goo"
  refine rounded_c f' (r'.le (by decide)) hb hb2 fun t => ?_
  walk_at "go"
  exact hP _
noncomputable def Nd.size : Nd → Int
  | .kern w => w
  | n => n.height + n.depth
theorem part_size_c {x dx : Addr} {od : Obj} {w h d sg : Int} {it l : Addr} {v : Value} {n : Nd} (f : Fn c sc) (r : Room c 3) (B : BoxOk H x dx od 3 w h d sg it l) (hn : NdAt H v n) (hk : n.kind ≠ 6)
    (hP : ∀ t, P (.int n.size t) m H) : W c (call (.ref 566) [.ref x, v]) m H P := by
  obtain ⟨hx, hd, t1, t2, t3, t4, t5, t6, t7, hD⟩ := B
  refine fn_part_size (k := 2) f r [(Str.ofString "box", .ref x), (Str.ofString "node", v)] (fun s _ => BindsTo.of_eq (by kernel_rfl)) (by kernel_rfl) ?_
  intro c' hw f' r' n'
  show W c' (execs (_ :: _) _) _ _ _
  have hn0 := hn
  cases n with
  | box ht dp =>
    obtain ⟨jt, oi, jl, ol, t1, t2, t3, t4, t5, t6, t7, t8, t9, ⟨xb, db, ob, rfl, h1, h2, hd⟩, _⟩ := hn
    walk_at "gox"
    refine height_of_c f' r' hn0 fun ta => ?_
    walk_at "gox"
    refine depth_of_c f' r' hn0 fun tb => ?_
    walk_at "gox"
    exact hP _
  | rule ht dp =>
    obtain ⟨t1, t2, ⟨xb, db, ob, rfl, h1, h2, hd⟩⟩ := hn
    walk_at "gox"
    refine height_of_c f' r' hn0 fun ta => ?_
    walk_at "gox"
    refine depth_of_c f' r' hn0 fun tb => ?_
    walk_at "gox"
    exact hP _
  | kern w =>
    obtain ⟨t1, t2, ⟨xb, db, ob, rfl, h1, h2, hd⟩⟩ := hn
    walk_at "gox"
    exact hP _
  | skip w st sh s => exact absurd rfl hk
  | pen n =>
    obtain ⟨t, ⟨xb, db, ob, rfl, h1, h2, hd⟩⟩ := hn
    walk_at "gox"
    refine height_of_c f' r' hn0 fun ta => ?_
    walk_at "gox"
    refine depth_of_c f' r' hn0 fun tb => ?_
    walk_at "gox"
    exact hP _
end

-- MG5
set_option maxHeartbeats 4000000
section
variable {c : Cfg} {sc : Scope} {m : Mp} {H : Led} {P : Value → Mp → Led → Prop}
theorem set_glue_c {x dx l1 l2 : Addr} {od o1 o2 : Obj} {n st sh e : Int} {te : Tok} {G : Led} (f : Fn c sc) (r : Room c 3) (T : TotOk x dx l1 l2 G) (V : TotV l1 l2 od o1 o2 n st sh) (he : -1000 ≤ e ∧ e ≤ 1000) (hst : 0 ≤ st ∧ st ≤ 2 ^ 40) (hsh : 0 ≤ sh ∧ sh ≤ 2 ^ 40) (hfit : e < 0 → -e ≤ sh)
    (h : ∀ a l rp oa ol G' sg u d t1 t2 t3 t4, (∀ p ∈ (dx, od) :: (l1, o1) :: (l2, o2) :: G, p ∈ G') → (a, oa) ∈ G' → IsT oa [.int sg t1, .int 0 t2, .ref l, .ref rp] → (l, ol) ∈ G' → IsT ol [.int u t3, .int d t4] → 
      ((sg = 0 ∧ u = 0 ∧ d = 1 ∧ (e = 0 ∨ (0 < e ∧ st = 0))) ∨ (sg = 1 ∧ u = e ∧ d = st ∧ 0 < e ∧ 0 < st) ∨ (sg = 2 ∧ u = -e ∧ d = sh ∧ e < 0 ∧ 0 < sh)) → P (.ref a) m G') :
    W c (call (.ref 545) [.ref x, .int e te]) m ((dx, od) :: (l1, o1) :: (l2, o2) :: G) P := by
  refine fn_set_glue (k := 2) f r [(Str.ofString "totals", .ref x), (Str.ofString "excess", .int e te)] (fun s _ => BindsTo.of_eq (by kernel_rfl)) (by kernel_rfl) ?_
  intro c' hw f' r' n'
  have T0 := T
  have V0 := V
  obtain ⟨hx, ap, d1, d2, d3⟩ := T
  obtain ⟨⟨tn, hd⟩, ⟨v1, ha, s1, s2, s3, s4, rfl⟩, ⟨v2, hb, s5, s6, s7, s8, rfl⟩⟩ := V
  show W c' (execs (_ :: _) _) _ _ _
  have up1 : ∀ {p q : Addr × Obj}, p ∈ (dx, od) :: (l1, o1) :: (l2, o2) :: G → p ∈ q :: (dx, od) :: (l1, o1) :: (l2, o2) :: G := fun h => .tail _ h
  rcases Int.lt_trichotomy e 0 with hneg | rfl | hpos
  · walk_at "goo"
    refine M_inst (fa := 291) f' (.tail _ (.tail _ (.tail _ hx))) (.head _) hd (by rfl) (by kernel_rfl) (by kernel_rfl) (by kernel_rfl) ?_
    walk_at "goo"
    refine shrink_top_c f' r' T0 V0 fun t => ?_
    walk_at "goo"
    refine X_lst (.tail _ (.tail _ (.head _))) hb (by decide) rfl ?_ (by decide)
    walk_at "goo"
    refine N_tuple (fun rq frq => ?_) (szl (Nat.le_of_ble_eq_true rfl))
    walk_at "goo"
    rw [show (if e < 0 then -e else e) = -e from if_pos hneg]
    refine badness_c f' (r'.le (by decide)) (by omega) (by omega) (by omega) (by omega) fun bn bk => ?_
    walk_at "goo"
    refine N_tuple (fun rp frp => ?_) (szl (Nat.le_of_ble_eq_true rfl))
    walk_at "goo"
    by_cases hz : sh = 0
    · exfalso; omega
    · walk_at "goo"
      refine X_tup (.head _) .new (k := 0) (j := 0) rfl rfl ?_
      walk_at "goo"
      rw [show (if e < 0 then -e else e) = -e from if_pos hneg]
      refine quotient_c f' (r'.le (by decide)) (by omega) fun l fl => ?_
      walk_at "goo"
      refine N_tuple (fun a fa => ?_) (szl (Nat.le_of_ble_eq_true rfl))
      walk_at "goo"
      exact h a l rp _ _ _ 2 (-e) sh _ _ _ _ (fun p hp => .tail _ (.tail _ (.tail _ (.tail _ hp)))) (.head _) .new (.tail _ (.head _)) .new (.inr (.inr ⟨rfl, rfl, rfl, by omega, by omega⟩))
  · walk_at "goo"
    refine N_tuple (fun l fl => ?_) (szl (Nat.le_of_ble_eq_true rfl))
    walk_at "goo"
    refine N_tuple (fun rp frp => ?_) (szl (Nat.le_of_ble_eq_true rfl))
    walk_at "goo"
    refine N_tuple (fun a fa => ?_) (szl (Nat.le_of_ble_eq_true rfl))
    walk_at "goo"
    exact h a l rp _ _ _ 0 0 1 _ _ _ _ (fun p hp => .tail _ (.tail _ (.tail _ hp))) (.head _) .new (.tail _ (.tail _ (.head _))) .new (.inl ⟨rfl, rfl, rfl, .inl rfl⟩)
  · walk_at "goo"
    refine M_inst (fa := 284) f' (.tail _ (.tail _ (.tail _ hx))) (.head _) hd (by rfl) (by kernel_rfl) (by kernel_rfl) (by kernel_rfl) ?_
    walk_at "goo"
    refine stretch_top_c f' r' T0 V0 fun t => ?_
    walk_at "goo"
    refine X_lst (.tail _ (.head _)) ha (by decide) rfl ?_ (by decide)
    walk_at "goo"
    refine N_tuple (fun rq frq => ?_) (szl (Nat.le_of_ble_eq_true rfl))
    walk_at "goo"
    rw [show (if e < 0 then -e else e) = e from if_neg (by omega)]
    refine badness_c f' (r'.le (by decide)) (by omega) (by omega) (by omega) (by omega) fun bn bk => ?_
    walk_at "goo"
    refine N_tuple (fun rp frp => ?_) (szl (Nat.le_of_ble_eq_true rfl))
    walk_at "goo"
    by_cases hz : st = 0
    · subst hz
      walk_at "goo"
      refine N_tuple (fun l fl => ?_) (szl (Nat.le_of_ble_eq_true rfl))
      walk_at "goo"
      refine N_tuple (fun a fa => ?_) (szl (Nat.le_of_ble_eq_true rfl))
      walk_at "goo"
      exact h a l rp _ _ _ 0 0 1 _ _ _ _ (fun p hp => .tail _ (.tail _ (.tail _ (.tail _ hp)))) (.head _) .new (.tail _ (.head _)) .new (.inl ⟨rfl, rfl, rfl, .inr ⟨hpos, rfl⟩⟩)
    · walk_at "goo"
      refine X_tup (.head _) .new (k := 0) (j := 0) rfl rfl ?_
      walk_at "goo"
      rw [show (if e < 0 then -e else e) = e from if_neg (by omega)]
      refine quotient_c f' (r'.le (by decide)) (by omega) fun l fl => ?_
      walk_at "goo"
      refine N_tuple (fun a fa => ?_) (szl (Nat.le_of_ble_eq_true rfl))
      walk_at "goo"
      exact h a l rp _ _ _ 1 (e) st _ _ _ _ (fun p hp => .tail _ (.tail _ (.tail _ (.tail _ hp)))) (.head _) .new (.tail _ (.head _)) .new (.inr (.inl ⟨rfl, rfl, rfl, by omega, by omega⟩))
end

-- MG6
section
variable {c : Cfg} {sc : Scope} {m : Mp} {H : Led}
theorem V_neNil {a b : Addr} {oa ob : Obj} {vs : List Value} {P : Value → Mp → Led → Prop} (ha : (a, oa) ∈ H) (la : IsL oa vs) (hb : (b, ob) ∈ H) (lb : IsL ob []) (hu : c.A.units < cLine) (h : ∀ x, P (.bool x) m H) : W c (compareOp .NotEq (.ref a) (.ref b)) m H P := fun s I => by
  cases vs with
  | nil => exact SeqAt.RcNeAt.lists (e := fun _ => true) (I.lst ha la) (I.lst hb lb) rfl hu (fun j h1 => by simp at h1) _ _ _ _ ⟨_, _, I, h _⟩
  | cons v vs => exact SeqAt.RcNeAt.lists_lengths (I.lst ha la) (I.lst hb lb) (by simp) hu _ _ _ _ ⟨_, _, I, h _⟩
end
theorem IsD.no_inst {o : Obj} {g : List (Str × Value)} {C D : Addr} (h : IsD o g) (e : o = instObj C D) : False := by
  obtain ⟨es, n, rfl, _⟩ := h
  have := congrArg Obj.cls e
  cases this
theorem IsD.no_T {o : Obj} {g : List (Str × Value)} {vs : List Value} (h : IsD o g) (e : IsT o vs) : False := by
  obtain ⟨es, n, rfl, _⟩ := h
  have := e.1
  revert this
  show Value.type "dict" = _ → False
  intro q
  injection q with q
  revert q
  decide
theorem IsD.no_L {o : Obj} {g : List (Str × Value)} {vs : List Value} (h : IsD o g) (e : IsL o vs) : False := by
  obtain ⟨es, n, rfl, _⟩ := h
  have := e.1
  revert this
  show Value.type "dict" = _ → False
  intro q
  injection q with q
  revert q
  decide
set_option maxHeartbeats 4000000
section
variable {c : Cfg} {sc : Scope} {m : Mp} {H : Led} {P : Value → Mp → Led → Prop}
theorem set_box_c {bx bd : Addr} {ob : Obj} {w ht d : Int} {it l : Addr} {oi : Obj} {vs : List Value} {x dx l1 l2 : Addr} {od o1 o2 : Obj} {n st sh e : Int} {te : Tok} {G : Led} (f : Fn c sc) (r : Room c 4) (hh : Hn c) (T : TotOk x dx l1 l2 G) (V : TotV l1 l2 od o1 o2 n st sh)
    (B : BoxOk G bx bd ob 3 w ht d 0 it l) (hi : (it, oi) ∈ G) (hoi : IsL oi vs)
    (he : -1000 ≤ e ∧ e ≤ 1000) (hst : 0 ≤ st ∧ st ≤ 2 ^ 40) (hsh : 0 ≤ sh ∧ sh ≤ 2 ^ 40) (hfit : e < 0 → -e ≤ sh)
    (h : ∀ v H' ob' l' ol' sg u dd t3 t4, (∀ p ∈ G, p.1 ≠ bd → p ∈ H') → BoxOk H' bx bd ob' 3 w ht d sg it l' → (l', ol') ∈ H' → IsT ol' [.int u t3, .int dd t4] →
      ((sg = 0 ∧ u = 0 ∧ dd = 1 ∧ (e = 0 ∨ (0 < e ∧ st = 0))) ∨ (sg = 1 ∧ u = e ∧ dd = st ∧ 0 < e ∧ 0 < st) ∨ (sg = 2 ∧ u = -e ∧ dd = sh ∧ e < 0 ∧ 0 < sh)) → P v m H') :
    W c (call (.ref 587) [.ref bx, .ref x, .int e te]) m ((dx, od) :: (l1, o1) :: (l2, o2) :: G) P := by
  refine fn_set_box (k := 3) f r [(Str.ofString "box", .ref bx), (Str.ofString "totals", .ref x), (Str.ofString "excess", .int e te)] (fun s _ => BindsTo.of_eq (by kernel_rfl)) (by kernel_rfl) ?_
  intro c' hw f' r' n'
  have hh' := n' hh
  show W c' (execs (_ :: _) _) _ _ _
  refine S_seq ?_
  refine S_assignT ?_ (by with_unfolding_all rfl) (by rw [sw_scope f'.scope]; kernel_rfl)
  walk_at "go"
  refine set_glue_c f' r' T V he hst hsh hfit fun a l' rp oa ol' G' sg u dd t1 t2 t3 t4 sub ha hoa hl' hol' hcase => ?_
  refine A_tup hh' ha hoa rfl ?_
  show W _ (assignInOrder [assign (.Attribute _ _ _) c'.env, assign (.Attribute _ _ _) c'.env, assign (.Attribute _ _ _) c'.env, assign (.Name _ _) c'.env] _) _ _ _
  walk_at "go"
  refine W_func fun fn => ?_
  obtain ⟨q1, q2, q3, q4, q5, q6, q7, hD⟩ := B.g
  have hbd : (bd, ob) ∈ G' := sub _ (.tail _ (.tail _ (.tail _ B.hd)))
  have ne : ∀ {a : Addr} {o : Obj}, (a, o) ∈ G' → (o = ob → False) → a ≠ bd := fun {a o} hm k e => k (fn a o ob hm (by rw [e]; exact hbd))
  have hbx : bx ≠ bd := ne (sub _ (.tail _ (.tail _ (.tail _ B.hx)))) fun e => hD.no_inst e.symm
  have hln : l' ≠ bd := ne hl' fun e => hD.no_T (e ▸ hol')
  have hit : it ≠ bd := ne (sub _ (.tail _ (.tail _ (.tail _ hi)))) fun e => hD.no_L (e ▸ hoi)
  have in' : ∀ p ∈ G', p.1 ≠ bd → p ∈ G'.filter fun p => p.1 ≠ bd := fun p h k => List.mem_filter.mpr ⟨h, by simpa using k⟩
  refine W_sub (H' := (bd, ob) :: G'.filter fun p => p.1 ≠ bd) ?_ ?_
  · intro p hp
    rcases List.mem_cons.mp hp with rfl | hp
    · exact hbd
    · exact (List.mem_filter.mp hp).1
  have hbx' : (bx, instObj 346 bd) ∈ G'.filter fun p => p.1 ≠ bd := in' _ (sub _ (.tail _ (.tail _ (.tail _ B.hx)))) hbx
  have fr : ∀ p ∈ G'.filter fun p => p.1 ≠ bd, p.1 ≠ bd := fun p hp => by simpa using (List.mem_filter.mp hp).2
  have hl2 := in' _ hl' hln
  have hi2 := in' _ (sub _ (.tail _ (.tail _ (.tail _ hi)))) hit
  walk_at "set"
  walk_at "go"
  walk_at "set"
  walk_at "go"
  walk_at "set"
  walk_at "goo"
  refine N_list (fun a fa => ?_) (szl (Nat.le_of_ble_eq_true rfl))
  refine V_neNil (.tail _ (.tail _ hi2)) hoi (.head _) .new (by have := r'.2; omega) fun z => ?_
  walk_at "go"
  rename_i D3 _ 
  have fin : ∀ v H', (∀ p ∈ (bd, D3) :: G'.filter fun p => p.1 ≠ bd, p ∈ H') → P v m H' := fun v H' k =>
    h v H' D3 l' ol' sg u dd t3 t4 (fun p hp hne => k _ (.tail _ (in' _ (sub _ (.tail _ (.tail _ (.tail _ hp)))) hne))) ⟨k _ (.tail _ hbx'), k _ (.head _), _, _, _, _, _, _, _, by assumption⟩ (k _ (.tail _ hl2)) hol' hcase
  cases z with
  | true => 
    walk_at "go"
    exact fin _ _ fun p hp => .tail _ hp
  | false => 
    walk_at "go"
    refine N_tuple (fun a fa => ?_) (szl (Nat.le_of_ble_eq_true rfl))
    walk_at "go"
    exact fin _ _ fun p hp => .tail _ (.tail _ hp)
end

-- MG7
set_option maxHeartbeats 4000000
section
variable {c : Cfg} {sc : Scope} {m : Mp} {H : Led} {P : Value → Mp → Led → Prop}
/-- what set_glue tells -/
noncomputable def Glued (sg u dd e st sh : Int) : Prop := (sg = 0 ∧ u = 0 ∧ dd = 1 ∧ (e = 0 ∨ (0 < e ∧ st = 0))) ∨ (sg = 1 ∧ u = e ∧ dd = st ∧ 0 < e ∧ 0 < st) ∨ (sg = 2 ∧ u = -e ∧ dd = sh ∧ e < 0 ∧ 0 < sh)
theorem vpack_body {D : Addr} {o : Obj} {vs : List Value} {ns : List Nd} {mode am e : Int} {t1 t2 t3 : Tok} {P' : Flow → Mp → Led → Prop} (f' : Fn c (scoOf (stAt 70))) (r' : Room c 6) (hh' : Hn c) (hm : (D, o) ∈ H) (hl : IsL o vs) (hn : Nds H vs ns)
    (hmo : mode = 0 ∨ mode = 1) (ha : InDim am) (hE : (if mode = 0 then am else (natF ns).n + am) = (natF ns).n + e)
    (he : -1000 ≤ e ∧ e ≤ 1000) (hst : 0 ≤ (natF ns).st ∧ (natF ns).st ≤ 2 ^ 40) (hsh : 0 ≤ (natF ns).sh ∧ (natF ns).sh ≤ 2 ^ 40) (hfit : e < 0 → -e ≤ (natF ns).sh) (hw : InDim (natF ns).wd) (hd : InDim (natF ns).dp) (hn' : InDim ((natF ns).n + e))
    (h : ∀ t ot b rv bd ob l ol H' sg u dd t3 t4 m', (∀ p ∈ H, p ∈ H') → (t, ot) ∈ H' → IsT ot [.ref b, rv] → BoxOk H' b bd ob 3 (natF ns).wd ((natF ns).n + e) (natF ns).dp sg D l → (l, ol) ∈ H' → IsT ol [.int u t3, .int dd t4] →
      Glued sg u dd e (natF ns).st (natF ns).sh → P' (.ret (.ref t)) m' H') :
    W c (execs (bodOf (stAt 70)) c.env) [(Str.ofString "most_depth", .int 1073741823 t3), (Str.ofString "amount", .int am t2), (Str.ofString "mode", .int mode t1), (Str.ofString "items", .ref D)] H P' := by
  have hd1 := hd.1
  have hd2 := hd.2
  show W c (execs (_ :: _) _) _ _ _
  walk_at "go"
  refine check_dimen_c f' (r'.le (by decide)) (by unfold InDim; omega) ?_
  walk_at "go"
  refine S_assignT ?_ (by with_unfolding_all rfl) (by rw [sw_scope f'.scope]; kernel_rfl)
  walk_at "go"
  refine natural_column_c f' (r'.le (by decide)) hh' hm hl hn fun x dx l1 l2 od o1 o2 G t ot tw td sub T V ht hot => ?_
  have hTx := T.hx
  obtain ⟨tn, hTd⟩ := V.d
  refine A_tup hh' (.tail _ (.tail _ (.tail _ ht))) hot rfl ?_
  show W _ (assignInOrder [assign (.Name _ _) c.env, assign (.Name _ _) c.env, assign (.Name _ _) c.env] _) _ _ _
  walk_at "go"
  walk_at "goo"
  refine goal_size_c f' (r'.le (by decide)) hmo ha fun t => ?_
  rw [hE]
  walk_at "goo"
  refine mk_Box_c f' (r'.le (by decide)) (.inr rfl) hw hn' hd fun b bd l0 ob vr t5 t6 t7 fr1 n1 n2 n3 hB hvr => ?_
  walk_at "goo"
  refine W_sub (H' := (dx, od) :: (l1, o1) :: (l2, o2) :: (bd, ob) :: (b, instObj 346 bd) :: (l0, tupOf vr) :: G) (by walk_at "led") ?_
  refine G_own (attr := none) (by assumption) (.tail _ (.tail _ (.tail _ (.tail _ (.tail _ (.tail _ hTx)))))) (.head _) hTd (by rfl) (by kernel_rfl) (by kernel_rfl) (by kernel_rfl) rfl (by rfl) ?_
  walk_at "goo"
  rename_i te
  have ee : (natF ns).n + e - (natF ns).n = e := by omega
  rw [ee]
  have T2 : TotOk x dx l1 l2 ((bd, ob) :: (b, instObj 346 bd) :: (l0, tupOf vr) :: G) := ⟨.tail _ (.tail _ (.tail _ hTx)), fun p hp => by
    have z1 := fr1 (dx, od) (.head _)
    have z2 := fr1 (l1, o1) (.tail _ (.head _))
    have z3 := fr1 (l2, o2) (.tail _ (.tail _ (.head _)))
    rcases List.mem_cons.mp hp with rfl | hp
    · exact ⟨z1.2.1.symm, z2.2.1.symm, z3.2.1.symm⟩
    rcases List.mem_cons.mp hp with rfl | hp
    · exact ⟨z1.1.symm, z2.1.symm, z3.1.symm⟩
    rcases List.mem_cons.mp hp with rfl | hp
    · exact ⟨z1.2.2.symm, z2.2.2.symm, z3.2.2.symm⟩
    exact T.ap p hp, T.d1, T.d2, T.d3⟩
  have B : BoxOk ((bd, ob) :: (b, instObj 346 bd) :: (l0, tupOf vr) :: G) b bd ob 3 (natF ns).wd ((natF ns).n + e) (natF ns).dp 0 D l0 := ⟨.tail _ (.head _), .head _, _, _, _, _, _, _, _, hB⟩
  refine set_box_c f' (r'.le (by decide)) hh' T2 V B (.tail _ (.tail _ (.tail _ (sub _ hm)))) hl he hst hsh hfit fun rv H' ob' l' ol' sg u dd t8 t9 sub' B' hl' hol' hcase => ?_
  walk_at "go"
  refine N_tuple (fun a fa => ?_) (szl (Nat.le_of_ble_eq_true rfl))
  walk_at "go"
  refine h a _ b rv bd ob' l' ol' _ sg u dd _ _ _ (fun p hp => .tail _ (sub' p (.tail _ (.tail _ (.tail _ (sub _ hp)))) ?_)) (.head _) .new ⟨.tail _ B'.hx, .tail _ B'.hd, B'.g⟩ (.tail _ hl') hol' hcase
  exact (fr1 p (.tail _ (.tail _ (.tail _ (sub _ hp))))).2.1
theorem vpack1_c {D : Addr} {o : Obj} {vs : List Value} {ns : List Nd} (f : Fn c sc) (r : Room c 7) (hh : Hn c) (hm : (D, o) ∈ H) (hl : IsL o vs) (hn : Nds H vs ns)
    (hst : 0 ≤ (natF ns).st ∧ (natF ns).st ≤ 2 ^ 40) (hsh : 0 ≤ (natF ns).sh ∧ (natF ns).sh ≤ 2 ^ 40) (hw : InDim (natF ns).wd) (hd : InDim (natF ns).dp) (hn' : InDim (natF ns).n)
    (h : ∀ t ot b rv bd ob l ol H' sg u dd t3 t4, (∀ p ∈ H, p ∈ H') → (t, ot) ∈ H' → IsT ot [.ref b, rv] → BoxOk H' b bd ob 3 (natF ns).wd (natF ns).n (natF ns).dp sg D l → (l, ol) ∈ H' → IsT ol [.int u t3, .int dd t4] →
      Glued sg u dd 0 (natF ns).st (natF ns).sh → P (.ref t) m H') :
    W c (call (.ref 595) [.ref D]) m H P := by
  refine fn_vpack (k := 6) f r [(Str.ofString "items", .ref D), (Str.ofString "mode", .int 1 929), (Str.ofString "amount", .int 0 1039), (Str.ofString "most_depth", .int 1073741823 297)] (fun s X => bd_vpack1 X) (by kernel_rfl) ?_
  intro c' hw' f' r' n'
  exact vpack_body (e := 0) f' r' (n' hh) hm hl hn (.inr rfl) (by unfold InDim; omega) (by simp) (by omega) hst hsh (fun q => by omega) hw hd (by simpa using hn')
    fun t ot b rv bd ob l ol H' sg u dd t3 t4 m' sub ht hot B hl' hol hg => h t ot b rv bd ob l ol H' sg u dd t3 t4 sub ht hot (by simpa using B) hl' hol hg
theorem vpack3_c {D : Addr} {o : Obj} {vs : List Value} {ns : List Nd} {am e : Int} {t1 t2 : Tok} (f : Fn c sc) (r : Room c 7) (hh : Hn c) (hm : (D, o) ∈ H) (hl : IsL o vs) (hn : Nds H vs ns) (ha : InDim am) (hE : am = (natF ns).n + e)
    (he : -1000 ≤ e ∧ e ≤ 1000) (hst : 0 ≤ (natF ns).st ∧ (natF ns).st ≤ 2 ^ 40) (hsh : 0 ≤ (natF ns).sh ∧ (natF ns).sh ≤ 2 ^ 40) (hfit : e < 0 → -e ≤ (natF ns).sh) (hw : InDim (natF ns).wd) (hd : InDim (natF ns).dp)
    (h : ∀ t ot b rv bd ob l ol H' sg u dd t3 t4, (∀ p ∈ H, p ∈ H') → (t, ot) ∈ H' → IsT ot [.ref b, rv] → BoxOk H' b bd ob 3 (natF ns).wd am (natF ns).dp sg D l → (l, ol) ∈ H' → IsT ol [.int u t3, .int dd t4] →
      Glued sg u dd e (natF ns).st (natF ns).sh → P (.ref t) m H') :
    W c (call (.ref 595) [.ref D, .int 0 t1, .int am t2]) m H P := by
  refine fn_vpack (k := 6) f r [(Str.ofString "items", .ref D), (Str.ofString "mode", .int 0 t1), (Str.ofString "amount", .int am t2), (Str.ofString "most_depth", .int 1073741823 297)] (fun s X => bd_vpack3 X) (by kernel_rfl) ?_
  intro c' hw' f' r' n'
  subst hE
  exact vpack_body (e := e) f' r' (n' hh) hm hl hn (.inl rfl) ha (if_pos rfl) he hst hsh hfit hw hd ha
    fun t ot b rv bd ob l ol H' sg u dd t3 t4 m' sub ht hot B hl' hol hg => h t ot b rv bd ob l ol H' sg u dd t3 t4 sub ht hot B hl' hol hg
end

-- MG8
structure PS where
  fx : Int
  fl : Int
  out : List Int
noncomputable def PS.part (sg : Int) (s : PS) : Nd → Int × Int
  | .skip w st sh _ => (s.fx + w, s.fl + flexI sg st sh)
  | n => (s.fx + n.size, s.fl)
noncomputable def PS.step (sg u dd : Int) (s : PS) (n : Nd) : PS := ⟨(s.part sg n).1, (s.part sg n).2, s.out ++ [(s.part sg n).1 + roundI (u * (s.part sg n).2) dd]⟩
noncomputable def plcF (sg u dd : Int) (ns : List Nd) : PS := ns.foldl (PS.step sg u dd) ⟨0, 0, [0]⟩
theorem plcF_next {sg u dd : Int} {ns : List Nd} {i : Nat} {n : Nd} (h : ns[i]? = some n) : plcF sg u dd (ns.take (i + 1)) = (plcF sg u dd (ns.take i)).step sg u dd n := by
  rw [take_next h]; unfold plcF; rw [List.foldl_append]; rfl
theorem kind_six {n : Nd} (h : n.kind = 6) : ∃ a b d e, n = .skip a b d e := by
  cases n with
  | skip a b d e => exact ⟨a, b, d, e, rfl⟩
  | _ => simp [Nd.kind] at h
theorem part_ne {n : Nd} {sg : Int} {s : PS} (h : n.kind ≠ 6) : s.part sg n = (s.fx + n.size, s.fl) := by
  cases n with
  | skip a b d e => exact absurd rfl h
  | _ => rfl
theorem plcF_len {sg u dd : Int} {ns : List Nd} : (plcF sg u dd ns).out.length = ns.length + 1 := by
  have : ∀ (l : List Nd) (s : PS), (l.foldl (PS.step sg u dd) s).out.length = s.out.length + l.length := by
    intro l
    induction l with
    | nil => intro s; rfl
    | cons a l ih => intro s; rw [List.foldl_cons, ih]; simp only [PS.step, List.length_append, List.length_cons, List.length_nil]; omega
  unfold plcF
  rw [this]; simp; omega
inductive PlcJ (b fd : Addr) (H : Led) (z : PS) (m' : Mp) (H' : Led) : Prop
  | mk (of : Obj) (ws : List Value) (tx ty : Tok) (kn : Kn [(Str.ofString "flexed", .int z.fl tx), (Str.ofString "fixed", .int z.fx ty), (Str.ofString "found", .ref fd), (Str.ofString "box", .ref b)] m') (e : H' = (fd, of) :: H) (h1 : PlL of ws) (h2 : Rds H ws (z.out.map .int)) : PlcJ b fd H z m' H'
set_option maxHeartbeats 4000000
section
variable {c : Cfg} {sc : Scope} {m : Mp} {H : Led} {P : Value → Mp → Led → Prop}
theorem places_c {b bd : Addr} {ob : Obj} {w ht d sg : Int} {D l : Addr} {o ol : Obj} {u dd : Int} {tu td : Tok} {vs : List Value} {ns : List Nd} (f : Fn c sc) (r : Room c 5) (hh : Hn c) (B : BoxOk H b bd ob 3 w ht d sg D l) (hl : (l, ol) ∈ H) (hol : IsT ol [.int u tu, .int dd td])
    (hm : (D, o) ∈ H) (ho : IsL o vs) (hn : Nds H vs ns) (hz : vs.length ≤ 1000) (hs : sg = 0 ∨ sg = 1 ∨ sg = 2) (hd0 : 0 < dd) (hd1 : dd ≤ 2 ^ 60) (hu : -(2 ^ 63) ≤ u ∧ u ≤ 2 ^ 63)
    (h : ∀ a oa ws, (∀ p ∈ H, p.1 ≠ a) → PlL oa ws → Rds H ws ((plcF sg u dd ns).out.map .int) → P (.ref a) m ((a, oa) :: H)) : W c (call (.ref 573) [.ref b]) m H P := by
  refine fn_places (k := 4) f r [(Str.ofString "box", .ref b)] (fun s _ => BindsTo.of_eq (by kernel_rfl)) (by kernel_rfl) ?_
  intro c' hw f' r' n'
  have hh' := n' hh
  have B0 := B
  obtain ⟨hbx, hbd, q1, q2, q3, q4, q5, q6, q7, hB⟩ := B
  show W c' (execs (_ :: _) _) _ _ _
  walk_at "goo"
  refine check_column_c f' (r'.le (by decide)) hm ho hn ?_
  walk_at "goo"
  rename_i t0
  refine N_list (fun fd ffd => ?_) (szl (Nat.le_of_ble_eq_true rfl))
  walk_at "goo"
  refine S_assignT ?_ (by with_unfolding_all rfl) (by rw [sw_scope f'.scope]; kernel_rfl)
  walk_at "goo"
  rename_i ta tb
  refine N_tuple (fun tp ftp => ?_) (szl (Nat.le_of_ble_eq_true rfl))
  refine A_tup hh' (.head _) .new rfl ?_
  refine W_sub (H' := (fd, listOf [Value.int 0 t0].toArray 0) :: H) (fun p hp => .tail _ hp) ?_
  show W _ (assignInOrder [assign (.Name _ _) c'.env, assign (.Name _ _) c'.env] _) _ _ _
  walk_at "goo"
  refine W_for f' ?_
  walk_at "goo"
  refine ⟨D, o, vs, fun i m' H' => PlcJ b fd H (plcF sg u dd (ns.take i)) m' H', rfl, .inl ho, ⟨_, _, tb, ta, Kn.refl, rfl, PlL.new, .cons .int .nil⟩, ?_, ?_, .inl fun _ _ => rfl, ?_⟩
  · rintro i m' H' ⟨of, ws, tx, ty, kn, rfl, hf, hr⟩
    exact .tail _ hm
  · rintro i m' H' c₂ v hv ⟨of, ws, tx, ty, kn, rfl, hf, hr⟩ lk
    have f₂ := lk.fn f'
    have r₂ := lk.room r'
    have hh₂ := lk.hn hh'
    obtain ⟨n, hni, hnv⟩ := hn.get hv
    have hlen : ws.length ≤ 1001 := by
      have := hr.length
      rw [List.length_map, plcF_len, List.length_take] at this
      have := hn.length
      omega
    try dsimp only
    rw [plcF_next hni]
    generalize plcF sg u dd (ns.take i) = z at *
    refine W_know kn ?_
    have up : NdAt ((fd, of) :: H) v n := hnv.mono fun p hp => .tail _ hp
    have B₂ : BoxOk ((fd, of) :: H) b bd ob 3 w ht d sg D l := ⟨.tail _ hbx, .tail _ hbd, B0.g⟩
    have fin : ∀ (t : Tok) (P' : Unit → Prop), True := fun _ _ => trivial
    by_cases hk : n.kind = 6
    · obtain ⟨a1, a2, a3, a4, rfl⟩ := kind_six hk
      obtain ⟨g, t, ⟨xb, db, ob, rfl, h1, h2, hd⟩, hg⟩ := id hnv
      have hg2 : GlueAt ((fd, of) :: H) (.ref g) a1 a2 a3 := hg.mono fun p hp => .tail _ hp
      obtain ⟨_, dg, og, e, g1, g2, e1, e2, e3, e4, e5, hgD⟩ := hg
      cases e
      walk_at "gox"
      refine flex_c f₂ (r₂.le (by decide)) B₂ hg2 hs fun tf => ?_
      walk_at "gox"
      refine M_append (.head _) hf ?_
      walk_at "gox"
      refine set_part_c f₂ (r₂.le (by decide)) B₂ (.tail _ hl) hol hd0 hd1 hu fun tr => ?_
      walk_at "gox"
      refine C_append (.head _) hf (by rw [sizeLine_eq]; omega) fun of' hf' => ⟨_, put_head ffd, ?_⟩
      walk_at "gox"
      exact ⟨of', _, _, _, by walk_at "kn", rfl, hf', by rw [PS.step, List.map_append]; exact hr.append (.cons .int .nil)⟩
    · walk_at "gok"
      refine part_size_c f₂ (r₂.le (by decide)) B₂ up hk fun tf => ?_
      walk_at "go"
      refine M_append (.head _) hf ?_
      walk_at "go"
      refine set_part_c f₂ (r₂.le (by decide)) B₂ (.tail _ hl) hol hd0 hd1 hu fun tr => ?_
      walk_at "go"
      refine C_append (.head _) hf (by rw [sizeLine_eq]; omega) fun of' hf' => ⟨_, put_head ffd, ?_⟩
      walk_at "go"
      rw [show z.step sg u dd n = ⟨z.fx + n.size, z.fl, z.out ++ [z.fx + n.size + roundI (u * z.fl) dd]⟩ from by unfold PS.step; rw [part_ne hk]]
      exact ⟨of', _, _, _, by walk_at "kn", rfl, hf', by rw [List.map_append]; exact hr.append (.cons .int .nil)⟩
  · rintro m' H' ⟨of, ws, tx, ty, kn, rfl, hf, hr⟩
    rw [List.take_of_length_le (by rw [hn.length]; exact Nat.le_refl _)] at kn hr
    refine Seq_next (W_know kn ?_)
    walk_at "go"
    exact h fd of ws ffd hf hr
end

-- MG9
structure Sp where
  bw : Int
  bst : Int
  bsh : Int
  cw : Int
  cst : Int
  csh : Int
  lim : Int
noncomputable def Sp.gap (s : Sp) (prev hgt : Int) : List Nd := if -65536000 < prev then (if s.bw - prev - hgt < s.lim then [.skip s.cw s.cst s.csh 100] else [.skip (s.bw - prev - hgt) s.bst s.bsh 101]) else []
inductive SpAt (H : Led) (sp : Addr) (s : Sp) : Prop
  | mk (osp : Obj) (bg cg : Addr) (t : Tok) (h1 : (sp, osp) ∈ H) (h2 : IsT osp [.ref bg, .ref cg, .int s.lim t]) (b : GlueAt H (.ref bg) s.bw s.bst s.bsh) (k : GlueAt H (.ref cg) s.cw s.cst s.csh) : SpAt H sp s
theorem SpAt.mono {H H' : Led} {sp : Addr} {s : Sp} (h : SpAt H sp s) (k : ∀ p ∈ H, p ∈ H') : SpAt H' sp s := by
  obtain ⟨osp, bg, cg, t, a, b, d, e⟩ := h
  exact ⟨osp, bg, cg, t, k _ a, b, d.mono k, e.mono k⟩
set_option maxHeartbeats 4000000
section
variable {c : Cfg} {sc : Scope} {m : Mp} {H : Led} {P : Value → Mp → Led → Prop}
theorem append_box_c {D : Addr} {o : Obj} {vs : List Value} {v : Value} {hgt dep prev : Int} {tp : Tok} {sp : Addr} {s : Sp} {G : Led} (f : Fn c sc) (r : Room c 5) (hh : Hn c) (hl : PlL o vs) (hz : vs.length ≤ 1000) (fr : ∀ p ∈ G, p.1 ≠ D)
    (hv : NdAt G v (.box hgt dep)) (hs : SpAt G sp s) (hw : InDim (s.bw - prev - hgt)) (h2 : InDim s.bst) (h3 : InDim s.bsh)
    (h : ∀ t o' ws H', (∀ p ∈ G, p ∈ H') → (∀ p ∈ H', p.1 ≠ D) → PlL o' (vs ++ ws ++ [v]) → Nds H' ws (s.gap prev hgt) → P (.int dep t) m ((D, o') :: H')) :
    W c (call (.ref 502) [.ref D, v, .ref sp, .int prev tp]) m ((D, o) :: G) P := by
  refine fn_append_box (k := 4) f r [(Str.ofString "items", .ref D), (Str.ofString "box", v), (Str.ofString "spacing", .ref sp), (Str.ofString "previous", .int prev tp)] (fun s _ => BindsTo.of_eq (by kernel_rfl)) (by kernel_rfl) ?_
  intro c' hw' f' r' n'
  have hh' := n' hh
  obtain ⟨osp, bg, cg, tl, hsp, hosp, ⟨_, bd, bo, e1, b1, b2, u1, u2, u3, u4, u5, b3⟩, hcg⟩ := id hs
  cases e1
  obtain ⟨it, oi, l, ol, t1, t2, t3, t4, t5, t6, t7, t8, t9, ⟨xb, db, ob, rfl, x1, x2, xd⟩, _⟩ := id hv
  show W c' (execs (_ :: _) _) _ _ _
  walk_at "goo"
  refine S_assignT ?_ (by with_unfolding_all rfl) (by rw [sw_scope f'.scope]; kernel_rfl)
  walk_at "goo"
  refine A_tup hh' (.tail _ hsp) hosp rfl ?_
  show W _ (assignInOrder [assign (.Name _ _) c'.env, assign (.Name _ _) c'.env, assign (.Name _ _) c'.env] _) _ _ _
  walk_at "goo"
  refine ifs (fun e => ?_) fun e => ?_
  · have e' : -65536000 < prev := of_decide_eq_true e
    walk_at "goo"
    refine ifs (fun d => ?_) fun d => ?_
    · have d' : s.bw - prev - hgt < s.lim := of_decide_eq_true d
      walk_at "goo"
      refine M_append (.head _) hl ?_
      walk_at "goo"
      refine mk_Skip_c f' r' (.inr (.inl rfl)) fun x dx od f1 f2 f3 hd => ?_
      walk_at "goo"
      refine W_sub (H' := (D, o) :: (dx, od) :: (x, instObj 410 dx) :: G) (by walk_at "led") ?_
      have fr1 : ∀ p ∈ (dx, od) :: (x, instObj 410 dx) :: G, p.1 ≠ D := fun p hp => by
        rcases List.mem_cons.mp hp with rfl | hp
        · exact (f2 (D, o) (.head _)).symm
        rcases List.mem_cons.mp hp with rfl | hp
        · exact (f1 (D, o) (.head _)).symm
        exact fr p hp
      have sb : ∀ p ∈ G, p ∈ (dx, od) :: (x, instObj 410 dx) :: G := fun p hp => .tail _ (.tail _ hp)
      refine C_append (.head _) hl (by rw [sizeLine_eq]; omega) fun o1 hl1 => ⟨_, put_head fr1, ?_⟩
      walk_at "goo"
      refine M_append (.head _) hl1 ?_
      walk_at "goo"
      refine C_append (.head _) hl1 (by rw [sizeLine_eq]; simp only [List.length_append, List.length_cons, List.length_nil]; omega) fun o2 hl2 => ⟨_, put_head fr1, ?_⟩
      have y1 : (xb, instObj 346 db) ∈ (dx, od) :: (x, instObj 410 dx) :: G := sb _ x1
      have y2 : (db, ob) ∈ (dx, od) :: (x, instObj 410 dx) :: G := sb _ x2
      walk_at "goo"
      exact h _ o2 [.ref x] _ sb fr1 hl2 (by rw [Sp.gap, if_pos e', if_pos d']; exact .one ⟨cg, _, ⟨x, dx, od, rfl, .tail _ (.head _), .head _, hd⟩, hcg.mono sb⟩)
    · have d' : ¬ s.bw - prev - hgt < s.lim := of_decide_eq_false d
      walk_at "goo"
      refine mk_Glue_c f' r' hw h2 h3 fun gx gd god f1 f2 f3 hd => ?_
      walk_at "goo"
      refine M_append (.tail _ (.tail _ (.head _))) hl ?_
      walk_at "goo"
      refine mk_Skip_c f' r' (.inr (.inr rfl)) fun x dx od f4 f5 f6 hd2 => ?_
      walk_at "goo"
      refine W_sub (H' := (D, o) :: (dx, od) :: (x, instObj 410 dx) :: (gd, god) :: (gx, instObj 238 gd) :: G) (by walk_at "led") ?_
      have fr1 : ∀ p ∈ (dx, od) :: (x, instObj 410 dx) :: (gd, god) :: (gx, instObj 238 gd) :: G, p.1 ≠ D := fun p hp => by
        rcases List.mem_cons.mp hp with rfl | hp
        · exact (f5 (D, o) (.tail _ (.tail _ (.head _)))).symm
        rcases List.mem_cons.mp hp with rfl | hp
        · exact (f4 (D, o) (.tail _ (.tail _ (.head _)))).symm
        rcases List.mem_cons.mp hp with rfl | hp
        · exact (f2 (D, o) (.head _)).symm
        rcases List.mem_cons.mp hp with rfl | hp
        · exact (f1 (D, o) (.head _)).symm
        exact fr p hp
      have sb : ∀ p ∈ G, p ∈ (dx, od) :: (x, instObj 410 dx) :: (gd, god) :: (gx, instObj 238 gd) :: G := fun p hp => .tail _ (.tail _ (.tail _ (.tail _ hp)))
      refine C_append (.head _) hl (by rw [sizeLine_eq]; omega) fun o1 hl1 => ⟨_, put_head fr1, ?_⟩
      walk_at "goo"
      refine M_append (.head _) hl1 ?_
      walk_at "goo"
      refine C_append (.head _) hl1 (by rw [sizeLine_eq]; simp only [List.length_append, List.length_cons, List.length_nil]; omega) fun o2 hl2 => ⟨_, put_head fr1, ?_⟩
      have y1 : (xb, instObj 346 db) ∈ (dx, od) :: (x, instObj 410 dx) :: (gd, god) :: (gx, instObj 238 gd) :: G := sb _ x1
      have y2 : (db, ob) ∈ (dx, od) :: (x, instObj 410 dx) :: (gd, god) :: (gx, instObj 238 gd) :: G := sb _ x2
      walk_at "goo"
      exact h _ o2 [.ref x] _ sb fr1 hl2 (by rw [Sp.gap, if_pos e', if_neg d']; exact .one ⟨gx, _, ⟨x, dx, od, rfl, .tail _ (.head _), .head _, hd2⟩, gx, gd, god, rfl, .tail _ (.tail _ (.tail _ (.head _))), .tail _ (.tail _ (.head _)), hd⟩)
  · have e' : ¬ -65536000 < prev := of_decide_eq_false e
    have hl1 : PlL o (vs ++ []) := by rw [List.append_nil]; exact hl
    have fr1 := fr
    have sb : ∀ p ∈ G, p ∈ G := fun p hp => hp
    walk_at "goo"
    refine M_append (.head _) hl1 ?_
    walk_at "goo"
    refine C_append (.head _) hl1 (by rw [sizeLine_eq]; simp only [List.length_append, List.length_cons, List.length_nil]; omega) fun o2 hl2 => ⟨_, put_head fr1, ?_⟩
    have y1 : (xb, instObj 346 db) ∈ G := sb _ x1
    have y2 : (db, ob) ∈ G := sb _ x2
    walk_at "goo"
    exact h _ o2 [] _ sb fr1 hl2 (by rw [Sp.gap, if_neg e']; exact .nil)
end

-- ML1
inductive PolJ (S L0 : Addr) (us : List Value) (H : Led) (m' : Mp) (H' : Led) : Prop
  | mk (w : Int) (t : Tok) (h : 0 ≤ w) (kn : Kn [(Str.ofString "whole", .int w t), (Str.ofString "script", .ref S)] m') (e : H' = (L0, listOf us.toArray 0) :: H) : PolJ S L0 us H m' H'
set_option maxHeartbeats 4000000
section
variable {c : Cfg} {sc : Scope} {m : Mp} {H : Led} {P : Value → Mp → Led → Prop}
inductive PoolOk (o : Obj) (B : Int) : Prop
  | mk (x y : Int) (t u : Tok) (h : IsL o [.int x t, .int y u]) (h1 : 0 ≤ x) (h2 : 0 ≤ y) (h3 : y ≤ B) : PoolOk o B
theorem law_take_c {D : Addr} {o : Obj} {B many : Int} {tm : Tok} {G : Led} (f : Fn c sc) (r : Room c 1) (hp : PoolOk o B) (hB : B ≤ 1000) (h0 : 0 < many) (h1 : many ≤ 1000) (fr : ∀ p ∈ G, p.1 ≠ D)
    (h : ∀ o' n t, PoolOk o' (B + 1) → 0 ≤ n → n < many → P (.int n t) m ((D, o') :: G)) : W c (call (.ref 609) [.ref D, .int many tm]) m ((D, o) :: G) P := by
  refine fn_law_take (k := 0) f r [(Str.ofString "pool", .ref D), (Str.ofString "many", .int many tm)] (fun s _ => BindsTo.of_eq (by kernel_rfl)) (by kernel_rfl) ?_
  intro c' hw f' r' n'
  obtain ⟨x, y, t, u, ho, hx, hy, hy2⟩ := hp
  show W c' (execs (_ :: _) _) _ _ _
  walk_at "go"
  refine X_lst (.head _) ho (by decide) rfl ?_ (by decide)
  walk_at "go"
  refine ifs (fun e => ?_) fun e => ?_
  · have e' : 0 < x := of_decide_eq_true e
    walk_at "go"
    refine X_lst (.head _) ho (by decide) rfl ?_ (by decide)
    walk_at "go"
    refine V_mod (by omega) fun t1 => ?_
    walk_at "go"
    refine X_lst (.head _) ho (by decide) rfl ?_ (by decide)
    walk_at "go"
    refine V_fdiv (by omega) (by omega) fun t2 => ?_
    walk_at "go"
    refine P_item (.head _) ho (by decide) (by show (0 : Int) < 2; decide) (by decide) fun o' ho' => ⟨_, put_head fr, ?_⟩
    walk_at "go"
    exact h o' _ _ ⟨_, _, _, _, ho', Int.fdiv_nonneg hx (by omega), hy, by omega⟩ (Int.fmod_nonneg hx (by omega)) (Int.fmod_lt_of_pos _ h0)
  · walk_at "go"
    refine G_item (.head _) ho (by decide) rfl ?_ (by decide)
    walk_at "go"
    refine P_item (.head _) ho (by decide) (by show (1 : Int) < 2; decide) (by decide) fun o' ho' => ⟨_, put_head fr, ?_⟩
    walk_at "go"
    refine X_lst (.head _) ho' (by decide) rfl ?_ (by decide)
    walk_at "go"
    refine V_mulL (fun t1 => ?_) (by decide)
    walk_at "go"
    refine X_lst (.head _) ho' (by decide) rfl ?_ (by decide)
    walk_at "go"
    refine V_mulR (fun t2 => ?_) (by omega)
    walk_at "go"
    refine X_lst (.head _) ho' (by decide) rfl ?_ (by decide)
    walk_at "go"
    refine V_mulL (fun t3 => ?_) (by decide)
    walk_at "go"
    refine V_mod (by decide) fun t4 => ?_
    walk_at "go"
    refine V_mod (by omega) fun t5 => ?_
    walk_at "go"
    refine h o' _ _ ⟨_, _, _, _, ho', hx, by omega, by omega⟩ (Int.fmod_nonneg (Int.fmod_nonneg ?_ (by decide)) (by omega)) (Int.fmod_lt_of_pos _ h0)
    have := Int.mul_nonneg (Int.mul_nonneg (by decide : (0:Int) ≤ 7) (by omega : 0 ≤ y + 1)) (by omega : 0 ≤ y + 1)
    omega
/-- a call, of which also the base heap is told -/
theorem W_callh {name qual : Str} {params : Arguments} {body : List Stmt} {scope : Scope} {dV kV doc pm cdv ct : Value} {f : Addr} {pos : List Value} {kw : List (Str × Value)} {binds : List (Str × Value)} {k : Nat}
    (fc : Fn c sc) (room : Room c (k + 1)) (ho : (kk c.w.params).lookup f = some ⟨.type "function", none, .func (fnOf name qual params body scope dV kV doc pm none cdv ct), #[]⟩) (hcd : codeIn (kk c.w.params) cdv qual = true)
    (hb : ∀ s : Shared, (kk c.w.params).In s.heap → BindsTo s (fnOf name qual params body scope dV kV doc pm none cdv ct) ⟨pos, kw⟩ binds) (hloc : ∀ y ∈ binds, scope.names.lookup y.1 = some .local)
    (hcell : ∀ x ∈ scope.names, x.2 ≠ .cell) (hco : scope.isCoroutine = false) (hgen : scope.isGenerator = false) (hk : scope.kind = .function)
    (h : ∀ c' : Cfg, c'.w = c.w → c'.h₀ = c.h₀ → Fn c' scope → Room c' k → (Hn c → Hn c') → W c' (execs body c'.env) binds.reverse H (fun fl _ H' => P (retv fl) m H')) : W c (call (.ref f) pos kw) m H P := fun s I => by
  refine wpAny_call (C_call fc I ho hcd rfl (k := k) (by have := room.1; omega) (by have := room.2; omega) hb hloc hcell hco hgen hk fun c' _ hw hz hA _ fc' hr _ => ?_)
  exact W_mono (h c' hw hz fc' hr (fun e => by show c'.A.handled = none; rw [hA]; exact e)) fun fl _ H' p s' J => ⟨m, H', J, p⟩
theorem fn_law_poolh {k : Nat} {pos : List Value} (f : Fn c sc) (r : Room c (k + 1)) (binds : List (Str × Value)) (hb : ∀ s : Shared, (kk c.w.params).In s.heap → BindsTo s fd_law_pool ⟨pos, []⟩ binds)
    (hl : (binds.all fun x => decide ((scoOf (stAt 72)).names.lookup x.1 = some .local)) = true)
    (h : ∀ c' : Cfg, c'.w = c.w → c'.h₀ = c.h₀ → Fn c' (scoOf (stAt 72)) → Room c' k → (Hn c → Hn c') → W c' (execs (bodOf (stAt 72)) c'.env) binds.reverse H (fun fl _ H' => P (retv fl) m H')) : W c (call (.ref 602) pos) m H P :=
  W_callh f r (by kernel_rfl) (by kernel_rfl) hb (locs hl) (by decide +kernel) (by kernel_rfl) (by kernel_rfl) (by kernel_rfl) h
theorem law_pool_c {S : Addr} {vs : List Value} (f : Fn c sc) (r : Room c 1) (hs : LstAt c H S vs) (hi : ∀ v ∈ vs, ∃ x t, v = .int x t) (hz : vs.length ≤ 1000)
    (h : ∀ D o, PoolOk o 0 → (∀ p ∈ H, p.1 ≠ D) → P (.ref D) m ((D, o) :: H)) : W c (call (.ref 602) [.ref S]) m H P := by
  refine W_post ?_
  refine fn_law_poolh (k := 0) f r [(Str.ofString "script", .ref S)] (fun s _ => BindsTo.of_eq (by kernel_rfl)) (by kernel_rfl) ?_
  intro c' hw hz0 f' r' n'
  have hs' : LstAt c' H S vs := by unfold LstAt; rw [hz0]; exact hs
  show W c' (execs (_ :: _) _) _ _ _
  walk_at "go"
  rename_i t0
  refine W_for f' ?_
  refine W_sliceTo ?_
  walk_at "go"
  refine ⟨S, vs, 24, _, rfl, hs', szl hz, rfl, fun L0 fL0 => ?_⟩
  refine ⟨L0, _, vs.take 24, fun i m' H' => PolJ S L0 (vs.take 24) H m' H', rfl, .inl .new, ⟨0, t0, by decide, Kn.refl, rfl⟩, ?_, ?_, .inl fun _ _ => rfl, ?_⟩
  · rintro i m' H' ⟨w, t, hw0, kn, rfl⟩
    exact .head _
  · rintro i m' H' c₂ v hv ⟨w, t, hw0, kn, rfl⟩ lk
    have f₂ := lk.fn f'
    obtain ⟨x, tx, rfl⟩ := hi v (List.mem_of_mem_take (List.mem_of_getElem? hv))
    try dsimp only
    refine W_know kn ?_
    have hpos : (0 : Int) < 10 ^ 300 := by decide
    have hpos2 : (0 : Int) < 10 ^ 60 := by decide
    walk_at "go"
    refine V_pow fun tp => ?_
    walk_at "go"
    have ha : 0 ≤ (if x < 0 then -x else x) := by split <;> omega
    generalize (if x < 0 then -x else x) = a at *
    have key : ∀ (p : Int), 0 ≤ p → 0 ≤ (w * 1000003 + p).fmod (10 ^ 300) := fun p hp => Int.fmod_nonneg (by omega) (Int.le_of_lt hpos)
    refine ifs (fun e => ?_) fun e => ?_
    · have e' : a < 10 ^ 18 := of_decide_eq_true e
      walk_at "go"
      refine V_mulR (fun t1 => ?_) (by omega)
      walk_at "go"
      rename_i q1 q2 q3 q4 q5 q6 q7 q8 q9 q10
      have hb : 0 ≤ (if decide (x < 0) = true then (1 : Int) else 0) ∧ (if decide (x < 0) = true then (1 : Int) else 0) ≤ 1 := by split <;> decide
      generalize (if decide (x < 0) = true then (1 : Int) else 0) = b at *
      refine V_mulL (fun t1 => ?_) (by omega)
      walk_at "go"
      refine V_pow fun tp => ?_
      refine V_mod (Int.ne_of_gt hpos2) fun t1 => ?_
      walk_at "go"
      refine V_mulR (fun t1 => ?_) (by decide)
      walk_at "go"
      refine V_pow fun tp => ?_
      refine V_mod (Int.ne_of_gt hpos) fun t1 => ?_
      walk_at "go"
      refine ⟨_, _, ?_, by walk_at "kn", rfl⟩
      exact key _ (Int.fmod_nonneg (Int.mul_nonneg (by omega) (by decide)) (Int.le_of_lt hpos2))
    · walk_at "go"
      refine V_mulR (fun t1 => ?_) (by decide)
      walk_at "go"
      refine V_pow fun tp => ?_
      refine V_mod (Int.ne_of_gt hpos) fun t1 => ?_
      walk_at "go"
      refine ⟨_, _, ?_, by walk_at "kn", rfl⟩
      exact key _ ha
  · rintro m' H' ⟨w, t, hw0, kn, rfl⟩
    refine Seq_next (W_know kn ?_)
    walk_at "go"
    refine N_list (fun a fa => ?_) (szl (Nat.le_of_ble_eq_true rfl))
    walk_at "go"
    rename_i tz
    refine ⟨_, ?_, h a _ ⟨w, 0, t, tz, IsL.new, hw0, by decide, by decide⟩ fun p hp => fa p (.tail _ hp)⟩
    walk_at "led"
end

-- ML2
structure Dd where
  sort : Int
  size : Int
  deep : Int
noncomputable def Dd.ok (d : Dd) : Prop := (d.sort = 0 ∨ d.sort = 1 ∨ d.sort = 2 ∨ d.sort = 3 ∨ d.sort = 4) ∧ 0 ≤ d.size ∧ d.size ≤ 11 ∧ -1 ≤ d.deep ∧ d.deep ≤ 4
inductive DdAt (H : Led) (v : Value) (d : Dd) : Prop
  | mk (a : Addr) (oa : Obj) (t1 t2 t3 : Tok) (e : v = .ref a) (h1 : (a, oa) ∈ H) (h2 : IsT oa [.int d.sort t1, .int d.size t2, .int d.deep t3]) : DdAt H v d
theorem DdAt.mono {H H' : Led} {v : Value} {d : Dd} (h : DdAt H v d) (k : ∀ p ∈ H, p ∈ H') : DdAt H' v d := by
  obtain ⟨a, oa, t1, t2, t3, e, x, y⟩ := h
  exact ⟨a, oa, t1, t2, t3, e, k _ x, y⟩
inductive Dds (H : Led) : List Value → List Dd → Prop
  | nil : Dds H [] []
  | cons {v vs n ns} : DdAt H v n → Dds H vs ns → Dds H (v :: vs) (n :: ns)
theorem Dds.mono {H H' : Led} (k : ∀ p ∈ H, p ∈ H') : ∀ {vs ns}, Dds H vs ns → Dds H' vs ns
  | _, _, .nil => .nil
  | _, _, .cons a b => .cons (a.mono k) (Dds.mono k b)
theorem Dds.length {H : Led} : ∀ {vs ns}, Dds H vs ns → vs.length = ns.length
  | _, _, .nil => rfl
  | _, _, .cons _ b => by simp [Dds.length b]
theorem Dds.append {H : Led} : ∀ {vs ns ws ms}, Dds H vs ns → Dds H ws ms → Dds H (vs ++ ws) (ns ++ ms)
  | _, _, _, _, .nil, h => h
  | _, _, _, _, .cons a b, h => .cons a (Dds.append b h)
theorem Dds.one {H : Led} {v : Value} {n : Dd} (h : DdAt H v n) : Dds H [v] [n] := .cons h .nil
theorem Dds.get {H : Led} : ∀ {vs ns} {i : Nat} {v : Value}, Dds H vs ns → vs[i]? = some v → ∃ n, ns[i]? = some n ∧ DdAt H v n
  | _, _, i, _, .nil, h => nomatch h
  | _, _, 0, _, .cons a b, h => by cases h; exact ⟨_, rfl, a⟩
  | _, _, i + 1, _, .cons a b, h => Dds.get (i := i) b h
theorem Dds.take {H : Led} : ∀ {vs ns} (k : Nat), Dds H vs ns → Dds H (vs.take k) (ns.take k)
  | _, _, 0, _ => by simp; exact .nil
  | _, _, k + 1, .nil => .nil
  | _, _, k + 1, .cons a b => .cons a (Dds.take k b)
theorem Dds.drop {H : Led} : ∀ {vs ns} (k : Nat), Dds H vs ns → Dds H (vs.drop k) (ns.drop k)
  | _, _, 0, h => h
  | _, _, k + 1, .nil => .nil
  | _, _, k + 1, .cons a b => Dds.drop k b
theorem Dds.refs {H : Led} : ∀ {vs ns}, Dds H vs ns → ∀ v ∈ vs, ∃ a, v = .ref a
  | _, _, .nil, _, h => nomatch h
  | _, _, .cons a b, v, h => by
    rcases List.mem_cons.mp h with rfl | h
    · obtain ⟨a, _, _, _, _, e, _⟩ := a; exact ⟨a, e⟩
    · exact Dds.refs b v h
inductive DesJ (D L : Addr) (G : Led) (B : Int) (i : Nat) (m' : Mp) (H' : Led) : Prop
  | mk (o2 oL : Obj) (vs : List Value) (ds : List Dd) (G' : Led) (kn : Kn [(Str.ofString "deeds", .ref L), (Str.ofString "pool", .ref D)] m') (e : H' = (D, o2) :: (L, oL) :: G') (hp : PoolOk o2 (B + 1 + 3 * i)) (h1 : ∀ p ∈ G, p ∈ G') (h2 : ∀ p ∈ G', p.1 ≠ D) (h3 : ∀ p ∈ G', p.1 ≠ L)
    (h4 : PlL oL vs) (h5 : Dds G' vs ds) (h6 : ds.length = i) (h7 : ∀ d ∈ ds, d.ok) : DesJ D L G B i m' H'
set_option maxHeartbeats 4000000
section
variable {c : Cfg} {sc : Scope} {m : Mp} {H : Led} {P : Value → Mp → Led → Prop}
theorem X_pick {value slice : Expr} {t : Addr} {o : Obj} {vs : List Value} {k : Int} {u : Tok} {P : Value → Mp → Led → Prop} (Q : Int → Prop) (hm : (t, o) ∈ H) (ht : IsL o vs)
    (h0 : 0 ≤ k) (hk : k < vs.length) (hv : ∀ v ∈ vs, ∃ x t, v = .int x t ∧ Q x) (h : ∀ x t, Q x → P (.int x t) m H) (hhi : k < 2 ^ 63)
    (hs : subscripted slice false (.ref t) (.int k u) = operate [.ref t, .int k u] (getItem (.ref t) (.int k u)) := by with_unfolding_all rfl) :
    W c (subscriptTail value slice (.ref t) (.int k u)) m H P := by
  have hlt : k.toNat < vs.length := by omega
  obtain ⟨x, tx, e, q⟩ := hv _ (List.getElem_mem hlt)
  exact X_lst hm ht h0 (List.getElem?_eq_getElem hlt) (e ▸ h x tx q) hhi hs
inductive ForGoS (c : Cfg) (target : Expr) (body : List Stmt) (P : Flow → Mp → Led → Prop) (xv : Value) (m : Mp) (H : Led) : Prop
  | mk (r : Addr) (n : Nat) (t u v : Tok) (J : Nat → Mp → Led → Prop) (H₀ : Led) (e : xv = .ref r) (hr : (r, ({ cls := .type "range", data := .fields #[.int 0 t, .int n u, .int 1 v] } : Obj)) ∈ H) (hn : n < 2 ^ 60) (hs : ∀ p ∈ H₀, p ∈ H) (j0 : J 0 m H₀)
    (step : ∀ (i : Nat) m' H' c' t, i < n → J i m' H' → Like c c' → W c' (assign target c'.env (.int i t)) m' H' fun _ m₂ H₂ => W c' (execs body c'.env) m₂ H₂ (Loop (J (i + 1)) P))
    (done : ∀ m' H', J n m' H' → P .next m' H') : ForGoS c target body P xv m H
theorem W_forRs {x : Str} {px : Pos} {iter : Expr} {body : List Stmt} {pos : Pos} {P : Flow → Mp → Led → Prop} (hh : Hn c) (h : W c (eval iter c.env) m H fun xv m H => 
    ForGoS c (.Name x px) body P xv m H) (hs : ∀ x, foldedSetIterable iter c.env x = pure x := by intro _; rfl) : W c (exec (.For (.Name x px) iter body [] pos) c.env) m H P := by
  refine W_post (W_forR hh (W_mono h fun xv m₁ H₁ g => ?_) hs)
  obtain ⟨r, n, t, u, v, J, H₀, e, hr, hn, hs0, j0, step, done⟩ := g
  refine ⟨r, n, t, u, v, fun i m' H' => ∃ H₂, (∀ p ∈ H₂, p ∈ H') ∧ J i m' H₂, e, hr, hn, ⟨H₀, hs0, j0⟩, ?_, ?_⟩
  · rintro i m' H' c' tt hi ⟨H₂, k, j⟩ lk
    refine W_sub k (W_mono (step i m' H₂ c' tt hi j lk) fun _ m₂ H₃ w => W_mono w fun fl m₃ H₄ q => ?_)
    cases fl with
    | next => exact ⟨H₄, fun p hp => hp, q⟩
    | cont => exact ⟨H₄, fun p hp => hp, q⟩
    | brk => exact ⟨H₄, fun p hp => hp, q⟩
    | ret v => exact ⟨H₄, fun p hp => hp, q⟩
  · rintro m' H' ⟨H₂, k, j⟩
    exact ⟨H₂, k, done _ _ j⟩
theorem W_swap {α : Type} {t : Sem α} {a b : Addr × Obj} {G : Led} {P : α → Mp → Led → Prop} (h : W c t m (b :: a :: G) P) : W c t m (a :: b :: G) P := W_sub (by walk_at "led") h
theorem W_third {α : Type} {t : Sem α} {a b d : Addr × Obj} {G : Led} {P : α → Mp → Led → Prop} (h : W c t m (d :: a :: b :: G) P) : W c t m (a :: b :: d :: G) P := W_sub (by walk_at "led") h
theorem W_drop {α : Type} {t : Sem α} {a : Addr × Obj} {G : Led} {P : α → Mp → Led → Prop} (h : W c t m G P) : W c t m (a :: G) P := W_sub (fun p hp => .tail _ hp) h
theorem W_drop2 {α : Type} {t : Sem α} {a b : Addr × Obj} {G : Led} {P : α → Mp → Led → Prop} (h : W c t m (a :: G) P) : W c t m (a :: b :: G) P := W_sub (by walk_at "led") h
theorem ap_cons {a : Addr} {o : Obj} {D : Addr} {G : Led} (h : a ≠ D) (fr : ∀ p ∈ G, p.1 ≠ D) : ∀ p ∈ (a, o) :: G, p.1 ≠ D := fun p hp => by
  rcases List.mem_cons.mp hp with rfl | hp
  · exact h
  · exact fr p hp
theorem law_deeds_c {D : Addr} {o : Obj} {B : Int} {G : Led} (f : Fn c sc) (r : Room c 3) (hh : Hn c) (hp : PoolOk o B) (hB : B ≤ 500) (fr : ∀ p ∈ G, p.1 ≠ D)
    (h : ∀ o' L oL vs ds H', PoolOk o' (B + 25) → (∀ p ∈ G, p ∈ H') → (∀ p ∈ H', p.1 ≠ D) → (L, oL) ∈ H' → PlL oL vs → Dds H' vs ds → 2 ≤ ds.length → ds.length ≤ 8 → (∀ d ∈ ds, d.ok) → P (.ref L) m ((D, o') :: H')) :
    W c (call (.ref 616) [.ref D]) m ((D, o) :: G) P := by
  refine W_post ?_
  refine fn_law_deeds (k := 2) f r [(Str.ofString "pool", .ref D)] (fun s _ => BindsTo.of_eq (by kernel_rfl)) (by kernel_rfl) ?_
  intro c' hw f' r' n'
  have hh' := n' hh
  show W c' (execs (_ :: _) _) _ _ _
  walk_at "go"
  refine N_list (fun L fL => ?_) (szl (Nat.le_of_ble_eq_true rfl))
  walk_at "go"
  refine W_forRs hh' ?_
  walk_at "go"
  refine W_sub (H' := (D, o) :: (L, listOf ([] : List Value).toArray 0) :: G) (by walk_at "led") ?_
  refine law_take_c f' (r'.le (by decide)) hp (by omega) (by decide) (by decide) (fun p hp => ?_) fun o1 n1 t1 hp1 hn0 hn1 => ?_
  · rcases List.mem_cons.mp hp with rfl | hp
    · exact (fL (D, o) (.head _)).symm
    · exact fr p hp
  walk_at "go"
  refine B_range fun rg u v frg => ?_
  obtain ⟨N, hN⟩ : ∃ N : Nat, 2 + n1 = (N : Int) := ⟨(2 + n1).toNat, by omega⟩
  rw [hN]
  refine ⟨rg, N, _, _, _, fun i m' H' => DesJ D L G B i m' H', (D, o1) :: (L, listOf ([] : List Value).toArray 0) :: G, rfl, .head _, by omega, fun p hp => .tail _ hp, ?_, ?_, ?_⟩
  · exact ⟨o1, _, [], [], G, Kn.refl, rfl, by simpa using hp1, fun p hp => hp, fr, fun p hp => fL p (.tail _ hp), .new, .nil, rfl, fun d hd => nomatch hd⟩
  · rintro i m' H' c₂ ti hi ⟨o2, oL, vs, ds, G', kn, rfl, hp2, sb, fD, fLL, hL, hds, hlen, hok⟩ lk
    have f₂ := lk.fn f'
    have r₂ := lk.room r'
    have hLD : L ≠ D := (fL (D, o) (.head _)).symm
    try dsimp only
    refine W_know kn ?_
    walk_at "go"
    refine N_list (fun l fl => ?_) (szl (Nat.le_of_ble_eq_true rfl))
    walk_at "go"
    refine W_swap ?_
    have flD : l ≠ D := (fl (D, o2) (.head _)).symm
    refine law_take_c f₂ (r₂.le (by decide)) hp2 (by omega) (by decide) (by decide) (ap_cons flD (ap_cons hLD fD)) fun o3 n3 t3 hp3 hn30 hn31 => ?_
    refine X_pick (fun s => s = 0 ∨ s = 1 ∨ s = 2 ∨ s = 3 ∨ s = 4) (.tail _ (.head _)) .new hn30 hn31 ?_ (fun srt ts hsrt => ?_) (by omega)
    · intro v hv
      simp only [List.mem_cons, List.not_mem_nil, or_false] at hv
      rcases hv with h | h | h | h | h | h | h | h | h | h <;> exact ⟨_, _, h, by decide⟩
    refine W_drop2 ?_
    walk_at "go"
    refine M_append (.tail _ (.head _)) hL ?_
    walk_at "go"
    refine law_take_c f₂ (r₂.le (by decide)) hp3 (by omega) (by decide) (by decide) (ap_cons hLD fD) fun o4 n4 t4 hp4 hn40 hn41 => ?_
    walk_at "go"
    refine N_list (fun l2 fl2 => ?_) (szl (Nat.le_of_ble_eq_true rfl))
    walk_at "go"
    refine W_swap ?_
    have flD2 : l2 ≠ D := (fl2 (D, o4) (.head _)).symm
    refine law_take_c f₂ (r₂.le (by decide)) hp4 (by omega) (by decide) (by decide) (ap_cons flD2 (ap_cons hLD fD)) fun o5 n5 t5 hp5 hn50 hn51 => ?_
    refine X_pick (fun s => -1 ≤ s ∧ s ≤ 4) (.tail _ (.head _)) .new hn50 hn51 ?_ (fun dp td hdp => ?_) (by omega)
    · intro v hv
      simp only [List.mem_cons, List.not_mem_nil, or_false] at hv
      rcases hv with h | h | h | h <;> exact ⟨_, _, h, by decide⟩
    refine W_drop2 ?_
    walk_at "go"
    refine N_tuple (fun tu ftu => ?_) (szl (Nat.le_of_ble_eq_true rfl))
    walk_at "go"
    refine W_third ?_
    have ftD : tu ≠ D := (ftu (D, o5) (.head _)).symm
    have ftL : tu ≠ L := (ftu (L, oL) (.tail _ (.head _))).symm
    refine C_append (.head _) hL (by rw [sizeLine_eq]; have := hds.length; omega) fun oL' hL' => ⟨(D, o5) :: (L, oL') :: (tu, tupOf [.int srt ts, .int n4 t4, .int dp td]) :: G', fun p hp => put_head (ap_cons ftL (ap_cons hLD.symm fLL)) p (by simp only [List.mem_cons] at hp ⊢; grind), ?_⟩
    walk_at "go"
    refine ⟨o5, oL', _, ds ++ [⟨srt, n4, dp⟩], (tu, _) :: G', by walk_at "kn", rfl, ?_, fun p hp => .tail _ (sb p hp), ap_cons ftD fD, ap_cons ftL fLL, hL', ?_, ?_, ?_⟩
    · have e : B + 1 + 3 * ((i : Int) + 1) = B + 1 + 3 * i + 1 + 1 + 1 := by omega
      simpa [e] using hp5
    · exact (hds.mono fun p hp => .tail _ hp).append (.one ⟨tu, _, _, _, _, rfl, .head _, .new⟩)
    · simp [hlen]
    · intro d hd
      rcases List.mem_append.mp hd with hd | hd
      · exact hok d hd
      · obtain rfl := List.mem_singleton.mp hd
        exact ⟨hsrt, hn40, by show n4 ≤ 11; omega, hdp.1, hdp.2⟩
  · rintro m' H' ⟨o2, oL, vs, ds, G', kn, rfl, hp2, sb, fD, fLL, hL, hds, hlen, hok⟩
    refine Seq_next (W_know kn ?_)
    walk_at "go"
    obtain ⟨x, y, a, b, h1, h2, h3, h4⟩ := hp2
    refine ⟨_, fun p hp => hp, h o2 L oL vs ds _ ⟨x, y, a, b, h1, h2, h3, by omega⟩ (fun p hp => .tail _ (sb p hp)) (ap_cons (fL (D, o) (.head _)).symm fD) (.head _) hL (hds.mono fun p hp => .tail _ hp) (by omega) (by omega) hok⟩
end

-- ML3
structure CS where
  ns : List Nd
  ab : Int
noncomputable def CS.step (s : Sp) (z : CS) (d : Dd) : CS :=
  if d.sort = 0 then ⟨z.ns ++ s.gap z.ab d.size ++ [.box d.size d.deep], d.deep⟩
  else if d.sort = 1 then ⟨z.ns ++ [.pen d.size], z.ab⟩
  else if d.sort = 2 then ⟨z.ns ++ [.kern d.size], z.ab⟩
  else if d.sort = 3 then ⟨z.ns ++ [.skip d.size 3 1 0], z.ab⟩
  else ⟨z.ns ++ [.rule d.size d.deep], -65536000⟩
noncomputable def colF (s : Sp) (ab : Int) (ds : List Dd) : CS := ds.foldl (CS.step s) ⟨[], ab⟩
theorem colF_next {s : Sp} {ab : Int} {ds : List Dd} {i : Nat} {d : Dd} (h : ds[i]? = some d) : colF s ab (ds.take (i + 1)) = (colF s ab (ds.take i)).step s d := by
  rw [take_next h]; unfold colF; rw [List.foldl_append]; rfl
/-- the drawn spacing -/
noncomputable def Sp.ok (s : Sp) : Prop := 0 ≤ s.bw ∧ s.bw ≤ 29 ∧ 0 ≤ s.bst ∧ s.bst ≤ 2 ∧ 0 ≤ s.bsh ∧ s.bsh ≤ 1 ∧ 1 ≤ s.cw ∧ s.cw ≤ 4 ∧ s.cst = 1 ∧ s.csh = 0 ∧ -3 ≤ s.lim ∧ s.lim ≤ 4
noncomputable def AbOk (a : Int) : Prop := a = -65536000 ∨ (-1 ≤ a ∧ a ≤ 5)
theorem CS.step_ab {s : Sp} {z : CS} {d : Dd} (hz : AbOk z.ab) (hd : d.ok) : AbOk (z.step s d).ab := by
  obtain ⟨h1, h2, h3, h4, h5⟩ := hd
  unfold CS.step
  split
  · exact .inr ⟨h4, by show d.deep ≤ 5; omega⟩
  split
  · exact hz
  split
  · exact hz
  split
  · exact hz
  · exact .inl rfl
theorem colF_ab {s : Sp} {ab : Int} {ds : List Dd} (ha : AbOk ab) (hd : ∀ d ∈ ds, d.ok) : AbOk (colF s ab ds).ab := by
  unfold colF
  have : ∀ (l : List Dd) (z : CS), AbOk z.ab → (∀ d ∈ l, d.ok) → AbOk (l.foldl (CS.step s) z).ab := by
    intro l
    induction l with
    | nil => intro z h _; exact h
    | cons a l ih => intro z h k; exact ih _ (CS.step_ab h (k a (.head _))) fun d hd => k d (.tail _ hd)
  exact this ds _ ha hd
inductive ColJ (C sp L : Addr) (H : Led) (z : CS) (i : Nat) (m' : Mp) (H' : Led) : Prop
  | mk (oC : Obj) (ws : List Value) (ta : Tok) (G' : Led) (kn : Kn [(Str.ofString "is_right", .bool true), (Str.ofString "column", .ref C), (Str.ofString "above", .int z.ab ta), (Str.ofString "spacing", .ref sp), (Str.ofString "deeds", .ref L)] m') (e : H' = (C, oC) :: G') (h1 : PlL oC ws)
    (h2 : Nds G' ws z.ns) (h3 : ∀ p ∈ H, p ∈ G') (h4 : ∀ p ∈ G', p.1 ≠ C) (h5 : ws.length ≤ 2 * i) : ColJ C sp L H z i m' H'
set_option maxHeartbeats 4000000
section
variable {c : Cfg} {sc : Scope} {m : Mp} {H : Led} {P : Value → Mp → Led → Prop}
theorem W_fifth {α : Type} {t : Sem α} {a b d e g : Addr × Obj} {G : Led} {P : α → Mp → Led → Prop} (h : W c t m (g :: a :: b :: d :: e :: G) P) : W c t m (a :: b :: d :: e :: g :: G) P := W_sub (by walk_at "led") h
theorem X_last {value slice : Expr} {t : Addr} {o : Obj} {vs : List Value} {u : Tok} {x : Value} {P : Value → Mp → Led → Prop} (hm : (t, o) ∈ H) (ht : IsL o (vs ++ [x])) (h : P x m H)
    (hs : subscripted slice false (.ref t) (.int (-1) u) = operate [.ref t, .int (-1) u] (getItem (.ref t) (.int (-1) u)) := by with_unfolding_all rfl) :
    W c (subscriptTail value slice (.ref t) (.int (-1) u)) m H P :=
  X_lstNeg (j := vs.length) hm ht (by decide) (by rw [PySem.seqIndex_neg (by decide) (by simp; omega)]; simp; omega) (by simp) h (by decide) hs
theorem W_focus {α : Type} {t : Sem α} {C : Addr} {o : Obj} {P : α → Mp → Led → Prop} (hm : (C, o) ∈ H) (h : W c t m ((C, o) :: H.filter fun p => p.1 ≠ C) P) : W c t m H P := W_sub (fun p hp => by
  rcases List.mem_cons.mp hp with rfl | hp
  · exact hm
  · exact (List.mem_filter.mp hp).1) h
theorem foc_ap {C : Addr} : ∀ p ∈ H.filter fun p => p.1 ≠ C, p.1 ≠ C := fun p hp => by simpa using (List.mem_filter.mp hp).2
theorem foc_in {C : Addr} {p : Addr × Obj} (h : p ∈ H) (k : p.1 ≠ C) : p ∈ H.filter fun p => p.1 ≠ C := List.mem_filter.mpr ⟨h, by simpa using k⟩
theorem law_column_c {L : Addr} {oL : Obj} {vs : List Value} {ds : List Dd} {sp : Addr} {s : Sp} {ab : Int} {tb : Tok} (f : Fn c sc) (r : Room c 6) (hh : Hn c) (hm : (L, oL) ∈ H) (hl : IsL oL vs) (hds : Dds H vs ds) (hlen : ds.length ≤ 8) (hok : ∀ d ∈ ds, d.ok) (hs : SpAt H sp s) (hso : s.ok) (hab : AbOk ab)
    (h : ∀ t C oC ws ta H', (∀ p ∈ H, p ∈ H') → (C, oC) ∈ H' → PlL oC ws → Nds H' ws (colF s ab ds).ns → (t, tupOf [.ref C, .int (colF s ab ds).ab ta, .bool true]) ∈ H' → P (.ref t) m H') :
    W c (call (.ref 623) [.ref L, .ref sp, .int ab tb]) m H P := by
  refine fn_law_column (k := 5) f r [(Str.ofString "deeds", .ref L), (Str.ofString "spacing", .ref sp), (Str.ofString "above", .int ab tb)] (fun s _ => BindsTo.of_eq (by kernel_rfl)) (by kernel_rfl) ?_
  intro c' hw f' r' n'
  have hh' := n' hh
  show W c' (execs (_ :: _) _) _ _ _
  walk_at "go"
  refine S_assignTs (names := [Str.ofString "column", Str.ofString "is_right"]) ?_ (by with_unfolding_all rfl) (by rw [sw_scope f'.scope]; kernel_rfl)
  walk_at "go"
  refine N_list (fun C fC => ?_) (szl (Nat.le_of_ble_eq_true rfl))
  walk_at "go"
  refine N_tuple (fun tp ftp => ?_) (szl (Nat.le_of_ble_eq_true rfl))
  walk_at "go"
  refine U_tup hh' (.head _) .new rfl ?_
  refine W_drop ?_
  show W _ (assignInOrder [bindName c'.env _, bindName c'.env _] [_, _]) _ _ _
  walk_at "go"
  refine W_for f' ?_
  walk_at "go"
  refine ⟨L, oL, vs, fun i m' H' => ColJ C sp L H (colF s ab (ds.take i)) i m' H', rfl, .inl hl, ⟨_, [], tb, H, by walk_at "kn", rfl, .new, .nil, fun p hp => hp, fC, by decide⟩, ?_, ?_, .inr ⟨hl, ⟨_, _, _, rfl⟩, hds.refs⟩, ?_⟩
  · rintro i m' H' ⟨oC, ws, ta, G', kn, rfl, hC, hn, sb, fr, hw⟩
    exact .tail _ (sb _ hm)
  · rintro i m' H' c₂ v hv ⟨oC, ws, ta, G', kn, rfl, hC, hn, sb, fr, hw⟩ lk
    have f₂ := lk.fn f'
    have r₂ := lk.room r'
    have hh₂ := lk.hn hh'
    obtain ⟨d, hdi, hdv⟩ := hds.get hv
    have hdo := hok d (List.mem_of_getElem? hdi)
    have hi8 : i < 8 := by
      have := (List.getElem?_eq_some_iff.mp hdi).1
      omega
    have hza := colF_ab (s := s) hab fun d hd => hok d (List.mem_of_mem_take (i := i) hd)
    try dsimp only
    rw [colF_next hdi]
    generalize colF s ab (ds.take i) = z at *
    refine W_know kn ?_
    obtain ⟨o1, o2, o3, o4, o5⟩ := hdo
    obtain ⟨va, voa, q1, q2, q3, rfl, hva, hvo⟩ := hdv
    refine A_tup hh₂ (.tail _ (sb _ hva)) hvo rfl ?_
    show W _ (assignInOrder [assign (.Name _ _) c₂.env, assign (.Name _ _) c₂.env, assign (.Name _ _) c₂.env] _) _ _ _
    walk_at "go"
    rcases o1 with e | e | e | e | e
    · walk_at "go"
      refine N_list (fun it fit => ?_) (szl (Nat.le_of_ble_eq_true rfl))
      walk_at "go"
      refine mk_Box_c f₂ (r₂.le (by decide)) (.inl rfl) (by unfold InDim; omega) (by unfold InDim; omega) (by unfold InDim; omega) fun x dx l od vr t5 t6 t7 fx n1 n2 n3 hB hvr => ?_
      walk_at "go"
      refine W_fifth ?_
      obtain ⟨t8, t9, rfl⟩ := hvr
      have fit0 := fit (C, oC) (.head _)
      have fx0 := fx (C, oC) (.tail _ (.head _))
      refine append_box_c (hgt := d.size) (dep := d.deep) f₂ (r₂.le (by decide)) hh₂ hC (by omega) (ap_cons fx0.2.1.symm (ap_cons fx0.1.symm (ap_cons fx0.2.2.symm (ap_cons fit0.symm fr))))
        ⟨it, _, l, _, _, _, _, _, _, _, _, _, _, ⟨x, dx, od, rfl, .tail _ (.head _), .head _, hB⟩, .tail _ (.tail _ (.tail _ (.head _))), .new, .tail _ (.tail _ (.head _)), .new⟩
        (hs.mono fun p hp => .tail _ (.tail _ (.tail _ (.tail _ (sb _ hp))))) ?_ ?_ ?_ fun ta' oC' ws' H' sub' fr' hC' hn' => ?_
      · obtain ⟨g1, g2, g3, g4, g5, g6, g7, g8, g9, g10, g11, g12⟩ := hso
        unfold InDim
        rcases hza with q | ⟨q, q'⟩ <;> omega
      · obtain ⟨g1, g2, g3, g4, g5, g6, g7, g8, g9, g10, g11, g12⟩ := hso
        unfold InDim
        omega
      · obtain ⟨g1, g2, g3, g4, g5, g6, g7, g8, g9, g10, g11, g12⟩ := hso
        unfold InDim
        omega
      walk_at "go"
      refine ift (beq_self_eq_true _) ?_
      walk_at "go"
      refine X_last (.head _) hC'.isL ?_
      walk_at "go"
      have e1 : z.step s d = ⟨z.ns ++ s.gap z.ab d.size ++ [.box d.size d.deep], d.deep⟩ := by unfold CS.step; rw [if_pos e]
      rw [e1]
      refine ⟨oC', _, ta', H', by walk_at "kn", rfl, hC', ?_, fun p hp => sub' p (.tail _ (.tail _ (.tail _ (.tail _ (sb p hp))))), fr', ?_⟩
      · refine ((hn.mono fun p hp => sub' p (.tail _ (.tail _ (.tail _ (.tail _ hp))))).append hn').append (.one ?_)
        exact ⟨it, _, l, _, _, _, _, _, _, _, _, _, _, ⟨x, dx, od, rfl, sub' _ (.tail _ (.head _)), sub' _ (.head _), hB⟩, sub' _ (.tail _ (.tail _ (.tail _ (.head _)))), .new, sub' _ (.tail _ (.tail _ (.head _))), .new⟩
      · have hg : ws'.length ≤ 1 := by
          rw [hn'.length]
          unfold Sp.gap
          split
          · split <;> simp
          · simp
        simp only [List.length_append, List.length_cons, List.length_nil]
        omega
    · walk_at "go"
      refine M_append (.head _) hC ?_
      walk_at "go"
      refine mk_Penalty_c f₂ (r₂.le (by decide)) (by unfold InDim; omega) fun x dx od f1 f2 f3 hd => ?_
      walk_at "go"
      refine W_third ?_
      refine C_append (.head _) hC (by rw [sizeLine_eq]; omega) fun oC' hC' => ⟨_, put_head (ap_cons (f2 (C, oC) (.head _)).symm (ap_cons (f1 (C, oC) (.head _)).symm fr)), ?_⟩
      walk_at "go"
      have e1 : z.step s d = ⟨z.ns ++ [.pen d.size], z.ab⟩ := by unfold CS.step; rw [if_neg (by omega), if_pos e]
      rw [e1]
      refine ⟨oC', _, ta, _, by walk_at "kn", rfl, hC', ?_, fun p hp => .tail _ (.tail _ (sb p hp)), ap_cons (f2 (C, oC) (.head _)).symm (ap_cons (f1 (C, oC) (.head _)).symm fr), ?_⟩
      · exact (hn.mono fun p hp => .tail _ (.tail _ hp)).append (.one ⟨_, x, dx, od, rfl, .tail _ (.head _), .head _, hd⟩)
      · simp only [List.length_append, List.length_cons, List.length_nil]
        omega
    · walk_at "go"
      refine M_append (.head _) hC ?_
      walk_at "go"
      refine mk_Kern_c f₂ (r₂.le (by decide)) (by unfold InDim; omega) (by decide) fun x dx od f1 f2 f3 hd => ?_
      walk_at "go"
      refine W_third ?_
      refine C_append (.head _) hC (by rw [sizeLine_eq]; omega) fun oC' hC' => ⟨_, put_head (ap_cons (f2 (C, oC) (.head _)).symm (ap_cons (f1 (C, oC) (.head _)).symm fr)), ?_⟩
      walk_at "go"
      have e1 : z.step s d = ⟨z.ns ++ [.kern d.size], z.ab⟩ := by unfold CS.step; rw [if_neg (by omega), if_neg (by omega), if_pos e]
      rw [e1]
      refine ⟨oC', _, ta, _, by walk_at "kn", rfl, hC', ?_, fun p hp => .tail _ (.tail _ (sb p hp)), ap_cons (f2 (C, oC) (.head _)).symm (ap_cons (f1 (C, oC) (.head _)).symm fr), ?_⟩
      · exact (hn.mono fun p hp => .tail _ (.tail _ hp)).append (.one ⟨_, _, x, dx, od, rfl, .tail _ (.head _), .head _, hd⟩)
      · simp only [List.length_append, List.length_cons, List.length_nil]
        omega
    · walk_at "go"
      refine M_append (.head _) hC ?_
      walk_at "go"
      refine mk_Glue_c f₂ (r₂.le (by decide)) (by unfold InDim; omega) (by unfold InDim; omega) (by unfold InDim; omega) fun gx gd god g1 g2 g3 hgd => ?_
      walk_at "go"
      refine mk_Skip_c f₂ (r₂.le (by decide)) (.inl rfl) fun x dx od f1 f2 f3 hd => ?_
      walk_at "go"
      refine W_fifth ?_
      have fr' := ap_cons (o := od) (f2 (C, oC) (.tail _ (.tail _ (.head _)))).symm (ap_cons (o := instObj 410 dx) (f1 (C, oC) (.tail _ (.tail _ (.head _)))).symm (ap_cons (o := god) (g2 (C, oC) (.head _)).symm (ap_cons (o := instObj 238 gd) (g1 (C, oC) (.head _)).symm fr)))
      refine C_append (.head _) hC (by rw [sizeLine_eq]; omega) fun oC' hC' => ⟨_, put_head fr', ?_⟩
      walk_at "go"
      have e1 : z.step s d = ⟨z.ns ++ [.skip d.size 3 1 0], z.ab⟩ := by unfold CS.step; rw [if_neg (by omega), if_neg (by omega), if_neg (by omega), if_pos e]
      rw [e1]
      refine ⟨oC', _, ta, _, by walk_at "kn", rfl, hC', ?_, fun p hp => .tail _ (.tail _ (.tail _ (.tail _ (sb p hp)))), fr', ?_⟩
      · exact (hn.mono fun p hp => .tail _ (.tail _ (.tail _ (.tail _ hp)))).append (.one ⟨gx, _, ⟨x, dx, od, rfl, .tail _ (.head _), .head _, hd⟩, gx, gd, god, rfl, .tail _ (.tail _ (.tail _ (.head _))), .tail _ (.tail _ (.head _)), hgd⟩)
      · simp only [List.length_append, List.length_cons, List.length_nil]
        omega
    · walk_at "go"
      refine M_append (.head _) hC ?_
      walk_at "go"
      refine mk_Rule_c f₂ (r₂.le (by decide)) (by unfold InDim; omega) (by unfold InDim; omega) fun x dx od H₂ f1 f2 f3 sub hd => ?_
      walk_at "go"
      refine W_focus (.tail _ (.tail _ (sub _ (.head _)))) ?_
      have nx : x ≠ C := (f1 _ (sub (C, oC) (.head _))).symm
      have ndx : dx ≠ C := (f2 _ (sub (C, oC) (.head _))).symm
      refine C_append (.head _) hC (by rw [sizeLine_eq]; omega) fun oC' hC' => ⟨_, put_head foc_ap, ?_⟩
      walk_at "go"
      have e1 : z.step s d = ⟨z.ns ++ [.rule d.size d.deep], -65536000⟩ := by unfold CS.step; rw [if_neg (by omega), if_neg (by omega), if_neg (by omega), if_neg (by omega)]
      rw [e1]
      have up : ∀ p ∈ G', p ∈ ((dx, od) :: (x, instObj 367 dx) :: H₂).filter fun p => p.1 ≠ C := fun p hp => foc_in (.tail _ (.tail _ (sub p (.tail _ hp)))) (fr p hp)
      refine ⟨oC', _, _, _, by walk_at "kn", rfl, hC', ?_, fun p hp => up p (sb p hp), foc_ap, ?_⟩
      · exact (hn.mono up).append (.one ⟨_, _, x, dx, od, rfl, foc_in (.tail _ (.head _)) nx, foc_in (.head _) ndx, hd⟩)
      · simp only [List.length_append, List.length_cons, List.length_nil]
        omega
  · rintro m' H' ⟨oC, ws, ta, G', kn, rfl, hC, hn, sb, fr, hw⟩
    rw [List.take_of_length_le (by rw [hds.length]; exact Nat.le_refl _)] at kn hn
    refine Seq_next (W_know kn ?_)
    walk_at "go"
    refine N_tuple (fun a fa => ?_) (szl (Nat.le_of_ble_eq_true rfl))
    walk_at "go"
    exact h a C oC ws ta _ (fun p hp => .tail _ (.tail _ (sb p hp))) (.tail _ (.head _)) hC (hn.mono fun p hp => .tail _ (.tail _ hp)) (.head _)
end

-- ML4
structure Rw where
  w : Int
  st : Int
  sh : Int
  k : Int
  dp : Option Int
noncomputable def optV : Option Int → Tok → Value
  | none, _ => .none
  | some d, t => .int d t
inductive RwAt (H : Led) (v : Value) (r : Rw) : Prop
  | mk (a : Addr) (oa : Obj) (t1 t2 t3 t4 t5 : Tok) (e : v = .ref a) (h1 : (a, oa) ∈ H) (h2 : IsT oa [.int r.w t1, .int r.st t2, .int r.sh t3, .int r.k t4, optV r.dp t5]) : RwAt H v r
theorem RwAt.mono {H H' : Led} {v : Value} {d : Rw} (h : RwAt H v d) (k : ∀ p ∈ H, p ∈ H') : RwAt H' v d := by
  obtain ⟨a, oa, t1, t2, t3, t4, t5, e, x, y⟩ := h
  exact ⟨a, oa, t1, t2, t3, t4, t5, e, k _ x, y⟩
inductive Rws (H : Led) : List Value → List Rw → Prop
  | nil : Rws H [] []
  | cons {v vs n ns} : RwAt H v n → Rws H vs ns → Rws H (v :: vs) (n :: ns)
theorem Rws.mono {H H' : Led} (k : ∀ p ∈ H, p ∈ H') : ∀ {vs ns}, Rws H vs ns → Rws H' vs ns
  | _, _, .nil => .nil
  | _, _, .cons a b => .cons (a.mono k) (Rws.mono k b)
theorem Rws.length {H : Led} : ∀ {vs ns}, Rws H vs ns → vs.length = ns.length
  | _, _, .nil => rfl
  | _, _, .cons _ b => by simp [Rws.length b]
theorem Rws.append {H : Led} : ∀ {vs ns ws ms}, Rws H vs ns → Rws H ws ms → Rws H (vs ++ ws) (ns ++ ms)
  | _, _, _, _, .nil, h => h
  | _, _, _, _, .cons a b, h => .cons a (Rws.append b h)
theorem Rws.one {H : Led} {v : Value} {n : Rw} (h : RwAt H v n) : Rws H [v] [n] := .cons h .nil
theorem Rws.get {H : Led} : ∀ {vs ns} {i : Nat} {v : Value}, Rws H vs ns → vs[i]? = some v → ∃ n, ns[i]? = some n ∧ RwAt H v n
  | _, _, i, _, .nil, h => nomatch h
  | _, _, 0, _, .cons a b, h => by cases h; exact ⟨_, rfl, a⟩
  | _, _, i + 1, _, .cons a b, h => Rws.get (i := i) b h
noncomputable def Nd.row : Nd → Rw
  | .box h d => ⟨h + d, 0, 0, 2, some d⟩
  | .rule h d => ⟨h + d, 0, 0, 4, some d⟩
  | .kern w => ⟨w, 0, 0, 5, some 0⟩
  | .skip w st sh _ => ⟨w, st, sh, 6, some 0⟩
  | .pen _ => ⟨0, 0, 0, 7, none⟩
inductive RowJ (R sp L cg bg : Addr) (s : Sp) (tl : Tok) (H : Led) (z : CS) (i : Nat) (m' : Mp) (H' : Led) : Prop
  | mk (oR : Obj) (ws : List Value) (ta : Tok) (G' : Led) (kn : Kn [(Str.ofString "rows", .ref R), (Str.ofString "limit", .int s.lim tl), (Str.ofString "close", .ref cg), (Str.ofString "baseline", .ref bg), (Str.ofString "above", .int z.ab ta), (Str.ofString "spacing", .ref sp), (Str.ofString "deeds", .ref L)] m') (e : H' = (R, oR) :: G') (h1 : PlL oR ws)
    (h2 : Rws G' ws (z.ns.map Nd.row)) (h3 : ∀ p ∈ H, p ∈ G') (h4 : ∀ p ∈ G', p.1 ≠ R) (h5 : ws.length ≤ 2 * i) : RowJ R sp L cg bg s tl H z i m' H'
inductive RowQ (R sp L cg bg : Addr) (s : Sp) (tl : Tok) (H : Led) (d : Dd) (q2 q3 : Tok) (rs : List Rw) (i : Nat) (m' : Mp) (H' : Led) : Prop
  | mk (oR' : Obj) (ws' : List Value) (G2 : Led) (kn : Kn [(Str.ofString "rows", .ref R), (Str.ofString "limit", .int s.lim tl), (Str.ofString "close", .ref cg), (Str.ofString "baseline", .ref bg), (Str.ofString "spacing", .ref sp), (Str.ofString "deeds", .ref L), (Str.ofString "size", .int d.size q2), (Str.ofString "deep", .int d.deep q3)] m') (e : H' = (R, oR') :: G2) (h1 : PlL oR' ws')
    (h2 : Rws G2 ws' rs) (h3 : ∀ p ∈ H, p ∈ G2) (h4 : ∀ p ∈ G2, p.1 ≠ R) (h5 : ws'.length ≤ 2 * i + 1) : RowQ R sp L cg bg s tl H d q2 q3 rs i m' H'
set_option maxHeartbeats 4000000
section
variable {c : Cfg} {sc : Scope} {m : Mp} {H : Led} {P : Value → Mp → Led → Prop}
theorem S_mid {st : Stmt} {rest : List Stmt} {P : Flow → Mp → Led → Prop} (Q : Mp → Led → Prop) (h : ∀ P₀ : Flow → Mp → Led → Prop, (∀ m' H', Q m' H' → P₀ .next m' H') → W c (exec st c.env) m H P₀) (k : ∀ m' H', Q m' H' → W c (execs rest c.env) m' H' P) : W c (exec st c.env) m H (Seq c rest P) :=
  h _ fun m' H' q => Seq_next (k m' H' q)
theorem law_rows_c {L : Addr} {oL : Obj} {vs : List Value} {ds : List Dd} {sp : Addr} {s : Sp} {ab : Int} {tb : Tok} (f : Fn c sc) (r : Room c 1) (hh : Hn c) (hm : (L, oL) ∈ H) (hl : IsL oL vs) (hds : Dds H vs ds) (hlen : ds.length ≤ 8) (hok : ∀ d ∈ ds, d.ok) (hs : SpAt H sp s) (hso : s.ok) (hab : AbOk ab)
    (h : ∀ R oR ws H', (∀ p ∈ H, p ∈ H') → (R, oR) ∈ H' → PlL oR ws → Rws H' ws ((colF s ab ds).ns.map Nd.row) → P (.ref R) m H') :
    W c (call (.ref 630) [.ref L, .ref sp, .int ab tb]) m H P := by
  refine fn_law_rows (k := 0) f r [(Str.ofString "deeds", .ref L), (Str.ofString "spacing", .ref sp), (Str.ofString "above", .int ab tb)] (fun s _ => BindsTo.of_eq (by kernel_rfl)) (by kernel_rfl) ?_
  intro c' hw f' r' n'
  have hh' := n' hh
  obtain ⟨osp, bg, cg, tl, hsp, hosp, ⟨_, bd, bo, e1, b1, b2, u1, u2, u3, u4, u5, b3⟩, ⟨_, cd, co, e2, g1, g2, y1, y2, y3, y4, y5, g3⟩⟩ := id hs
  cases e1
  cases e2
  show W c' (execs (_ :: _) _) _ _ _
  walk_at "goo"
  refine S_assignT ?_ (by with_unfolding_all rfl) (by rw [sw_scope f'.scope]; kernel_rfl)
  walk_at "goo"
  refine A_tup hh' hsp hosp rfl ?_
  show W _ (assignInOrder [assign (.Name _ _) c'.env, assign (.Name _ _) c'.env, assign (.Name _ _) c'.env] _) _ _ _
  walk_at "goo"
  refine N_list (fun R fR => ?_) (szl (Nat.le_of_ble_eq_true rfl))
  walk_at "go"
  refine W_for f' ?_
  walk_at "go"
  refine ⟨L, oL, vs, fun i m' H' => RowJ R sp L cg bg s tl H (colF s ab (ds.take i)) i m' H', rfl, .inl hl, ⟨_, [], tb, H, by walk_at "kn", rfl, .new, .nil, fun p hp => hp, fR, by decide⟩, ?_, ?_, .inr ⟨hl, ⟨_, _, _, rfl⟩, hds.refs⟩, ?_⟩
  · rintro i m' H' ⟨oR, ws, ta, G', kn, rfl, hR, hn, sb, fr, hw⟩
    exact .tail _ (sb _ hm)
  · rintro i m' H' c₂ v hv ⟨oR, ws, ta, G', kn, rfl, hR, hn, sb, fr, hw⟩ lk
    have f₂ := lk.fn f'
    have r₂ := lk.room r'
    have hh₂ := lk.hn hh'
    obtain ⟨d, hdi, hdv⟩ := hds.get hv
    have hdo := hok d (List.mem_of_getElem? hdi)
    have hi8 : i < 8 := by
      have := (List.getElem?_eq_some_iff.mp hdi).1
      omega
    have hza := colF_ab (s := s) hab fun d hd => hok d (List.mem_of_mem_take (i := i) hd)
    try dsimp only
    rw [colF_next hdi]
    generalize colF s ab (ds.take i) = z at *
    refine W_know kn ?_
    obtain ⟨o1, o2, o3, o4, o5⟩ := hdo
    obtain ⟨va, voa, q1, q2, q3, rfl, hva, hvo⟩ := hdv
    have B1 := sb _ b1
    have B2 := sb _ b2
    have G1 := sb _ g1
    have G2 := sb _ g2
    refine A_tup hh₂ (.tail _ (sb _ hva)) hvo rfl ?_
    show W _ (assignInOrder [assign (.Name _ _) c₂.env, assign (.Name _ _) c₂.env, assign (.Name _ _) c₂.env] _) _ _ _
    walk_at "go"
    rcases o1 with e | e | e | e | e
    · walk_at "go"
      walk_at "own"
      walk_at "goe"
      refine S_mid (RowQ R sp L cg bg s tl H d q2 q3 ((z.ns ++ s.gap z.ab d.size).map Nd.row) i) (fun P₀ k₀ => ?_) ?_
      · by_cases e' : -65536000 < z.ab
        · by_cases d' : s.bw - z.ab - d.size < s.lim
          · walk_at "goo"
            refine M_append (.head _) hR ?_
            walk_at "goo"
            refine N_tuple (fun tu1 ftu1 => ?_) (szl (Nat.le_of_ble_eq_true rfl))
            walk_at "goo"
            refine W_swap ?_
            refine C_append (.head _) hR (by rw [sizeLine_eq]; first | omega | (simp only [List.length_append, List.length_cons, List.length_nil]; omega)) fun oR1 hR1 => ⟨_, put_head (ap_cons (ftu1 _ (.head _)).symm fr), ?_⟩
            walk_at "goo"
            refine k₀ _ _ ⟨_, _, _, by walk_at "kn", rfl, hR1, ?_, fun p hp => .tail _ (sb p hp), ap_cons (ftu1 _ (.head _)).symm fr, ?_⟩
            · rw [show s.gap z.ab d.size = [.skip s.cw s.cst s.csh 100] from by unfold Sp.gap; rw [if_pos e', if_pos d'], List.map_append]
              exact (hn.mono fun p hp => .tail _ hp).append (.one (n := Nd.row (.skip s.cw s.cst s.csh 100)) ⟨tu1, _, _, _, _, _, _, rfl, .head _, .new⟩)
            · simp only [List.length_append, List.length_cons, List.length_nil]
              omega
          · walk_at "goo"
            refine M_append (.head _) hR ?_
            walk_at "goo"
            refine N_tuple (fun tu1 ftu1 => ?_) (szl (Nat.le_of_ble_eq_true rfl))
            walk_at "goo"
            refine W_swap ?_
            refine C_append (.head _) hR (by rw [sizeLine_eq]; first | omega | (simp only [List.length_append, List.length_cons, List.length_nil]; omega)) fun oR1 hR1 => ⟨_, put_head (ap_cons (ftu1 _ (.head _)).symm fr), ?_⟩
            walk_at "goo"
            refine k₀ _ _ ⟨_, _, _, by walk_at "kn", rfl, hR1, ?_, fun p hp => .tail _ (sb p hp), ap_cons (ftu1 _ (.head _)).symm fr, ?_⟩
            · rw [show s.gap z.ab d.size = [.skip (s.bw - z.ab - d.size) s.bst s.bsh 101] from by unfold Sp.gap; rw [if_pos e', if_neg d'], List.map_append]
              exact (hn.mono fun p hp => .tail _ hp).append (.one (n := Nd.row (.skip (s.bw - z.ab - d.size) s.bst s.bsh 101)) ⟨tu1, _, _, _, _, _, _, rfl, .head _, .new⟩)
            · simp only [List.length_append, List.length_cons, List.length_nil]
              omega
        · walk_at "goo"
          refine k₀ _ _ ⟨_, _, _, by walk_at "kn", rfl, hR, ?_, sb, fr, by omega⟩
          rw [show s.gap z.ab d.size = [] from by unfold Sp.gap; rw [if_neg e'], List.append_nil]
          exact hn
      · rintro m2 H2 ⟨oR', ws', G2, kn2, rfl, hR', hn2, sb2, fr2, hw2⟩
        refine W_know kn2 ?_
        walk_at "go"
        refine M_append (.head _) hR' ?_
        walk_at "go"
        refine N_tuple (fun tu1 ftu1 => ?_) (szl (Nat.le_of_ble_eq_true rfl))
        walk_at "go"
        refine W_swap ?_
        refine C_append (.head _) hR' (by rw [sizeLine_eq]; omega) fun oR1 hR1 => ⟨_, put_head (ap_cons (ftu1 _ (.head _)).symm fr2), ?_⟩
        walk_at "go"
        rw [show z.step s d = ⟨z.ns ++ s.gap z.ab d.size ++ [.box d.size d.deep], d.deep⟩ from by unfold CS.step; rw [if_pos e]]
        refine ⟨_, _, _, _, by walk_at "kn", rfl, hR1, ?_, fun p hp => .tail _ (sb2 p hp), ap_cons (ftu1 _ (.head _)).symm fr2, ?_⟩
        · rw [List.map_append]
          exact (hn2.mono fun p hp => .tail _ hp).append (.one (n := Nd.row (.box d.size d.deep)) ⟨tu1, _, _, _, _, _, _, rfl, .head _, .new⟩)
        · simp only [List.length_append, List.length_cons, List.length_nil]
          omega
    · walk_at "goo"
      refine M_append (.head _) hR ?_
      walk_at "goo"
      refine N_tuple (fun tu1 ftu1 => ?_) (szl (Nat.le_of_ble_eq_true rfl))
      walk_at "goo"
      refine W_swap ?_
      refine C_append (.head _) hR (by rw [sizeLine_eq]; first | omega | (simp only [List.length_append, List.length_cons, List.length_nil]; omega)) fun oR1 hR1 => ⟨_, put_head (ap_cons (ftu1 _ (.head _)).symm fr), ?_⟩
      walk_at "goo"
      rw [show z.step s d = ⟨z.ns ++ [.pen d.size], z.ab⟩ from by unfold CS.step; rw [if_neg (by omega), if_pos e]]
      refine ⟨_, _, ta, _, by walk_at "kn", rfl, hR1, ?_, fun p hp => .tail _ (sb p hp), ap_cons (ftu1 _ (.head _)).symm fr, ?_⟩
      · rw [List.map_append]
        exact (hn.mono fun p hp => .tail _ hp).append (.one (n := Nd.row (.pen d.size)) ⟨tu1, _, _, _, _, _, q1, rfl, .head _, .new⟩)
      · simp only [List.length_append, List.length_cons, List.length_nil]
        omega
    · walk_at "goo"
      refine M_append (.head _) hR ?_
      walk_at "goo"
      refine N_tuple (fun tu1 ftu1 => ?_) (szl (Nat.le_of_ble_eq_true rfl))
      walk_at "goo"
      refine W_swap ?_
      refine C_append (.head _) hR (by rw [sizeLine_eq]; first | omega | (simp only [List.length_append, List.length_cons, List.length_nil]; omega)) fun oR1 hR1 => ⟨_, put_head (ap_cons (ftu1 _ (.head _)).symm fr), ?_⟩
      walk_at "goo"
      rw [show z.step s d = ⟨z.ns ++ [.kern d.size], z.ab⟩ from by unfold CS.step; rw [if_neg (by omega), if_neg (by omega), if_pos e]]
      refine ⟨_, _, ta, _, by walk_at "kn", rfl, hR1, ?_, fun p hp => .tail _ (sb p hp), ap_cons (ftu1 _ (.head _)).symm fr, ?_⟩
      · rw [List.map_append]
        exact (hn.mono fun p hp => .tail _ hp).append (.one (n := Nd.row (.kern d.size)) ⟨tu1, _, _, _, _, _, _, rfl, .head _, .new⟩)
      · simp only [List.length_append, List.length_cons, List.length_nil]
        omega
    · walk_at "goo"
      refine M_append (.head _) hR ?_
      walk_at "goo"
      refine N_tuple (fun tu1 ftu1 => ?_) (szl (Nat.le_of_ble_eq_true rfl))
      walk_at "goo"
      refine W_swap ?_
      refine C_append (.head _) hR (by rw [sizeLine_eq]; first | omega | (simp only [List.length_append, List.length_cons, List.length_nil]; omega)) fun oR1 hR1 => ⟨_, put_head (ap_cons (ftu1 _ (.head _)).symm fr), ?_⟩
      walk_at "goo"
      rw [show z.step s d = ⟨z.ns ++ [.skip d.size 3 1 0], z.ab⟩ from by unfold CS.step; rw [if_neg (by omega), if_neg (by omega), if_neg (by omega), if_pos e]]
      refine ⟨_, _, ta, _, by walk_at "kn", rfl, hR1, ?_, fun p hp => .tail _ (sb p hp), ap_cons (ftu1 _ (.head _)).symm fr, ?_⟩
      · rw [List.map_append]
        exact (hn.mono fun p hp => .tail _ hp).append (.one (n := Nd.row (.skip d.size 3 1 0)) ⟨tu1, _, _, _, _, _, _, rfl, .head _, .new⟩)
      · simp only [List.length_append, List.length_cons, List.length_nil]
        omega
    · walk_at "goo"
      refine M_append (.head _) hR ?_
      walk_at "goo"
      refine N_tuple (fun tu1 ftu1 => ?_) (szl (Nat.le_of_ble_eq_true rfl))
      walk_at "goo"
      refine W_swap ?_
      refine C_append (.head _) hR (by rw [sizeLine_eq]; first | omega | (simp only [List.length_append, List.length_cons, List.length_nil]; omega)) fun oR1 hR1 => ⟨_, put_head (ap_cons (ftu1 _ (.head _)).symm fr), ?_⟩
      walk_at "goo"
      rw [show z.step s d = ⟨z.ns ++ [.rule d.size d.deep], -65536000⟩ from by unfold CS.step; rw [if_neg (by omega), if_neg (by omega), if_neg (by omega), if_neg (by omega)]]
      refine ⟨_, _, _, _, by walk_at "kn", rfl, hR1, ?_, fun p hp => .tail _ (sb p hp), ap_cons (ftu1 _ (.head _)).symm fr, ?_⟩
      · rw [List.map_append]
        exact (hn.mono fun p hp => .tail _ hp).append (.one (n := Nd.row (.rule d.size d.deep)) ⟨tu1, _, _, _, _, _, _, rfl, .head _, .new⟩)
      · simp only [List.length_append, List.length_cons, List.length_nil]
        omega
  · rintro m' H' ⟨oR, ws, ta, G', kn, rfl, hR, hn, sb, fr, hw⟩
    rw [List.take_of_length_le (by rw [hds.length]; exact Nat.le_refl _)] at kn hn
    refine Seq_next (W_know kn ?_)
    walk_at "go"
    exact h R oR ws _ (fun p hp => .tail _ (sb p hp)) (.head _) hR (hn.mono fun p hp => .tail _ hp)
end

-- ML5
structure BS where
  fx : Int
  fl : Int
  out : List Int
noncomputable def farI (total e fl : Int) : Int := if total = 0 then 0 else (2 * (if e < 0 then -e else e) * fl + total).fdiv (2 * total)
noncomputable def BS.step (total e : Int) (s : BS) (r : Rw) : BS :=
  ⟨s.fx + r.w, s.fl + (if 0 < e then r.st else r.sh), s.out ++ [if 0 < e then s.fx + r.w + farI total e (s.fl + (if 0 < e then r.st else r.sh)) else s.fx + r.w - farI total e (s.fl + (if 0 < e then r.st else r.sh))]⟩
noncomputable def sumOf (g : Rw → Int) (rs : List Rw) : Int := (rs.map g).sum
noncomputable def totalOf (e : Int) (rs : List Rw) : Int := if 0 < e then sumOf Rw.st rs else sumOf Rw.sh rs
noncomputable def begF (total e : Int) (rs : List Rw) : BS := rs.foldl (BS.step total e) ⟨0, 0, [0]⟩
theorem begF_next {total e : Int} {ns : List Rw} {i : Nat} {n : Rw} (h : ns[i]? = some n) : begF total e (ns.take (i + 1)) = (begF total e (ns.take i)).step total e n := by
  rw [take_next h]; unfold begF; rw [List.foldl_append]; rfl
theorem begF_len {total e : Int} {ns : List Rw} : (begF total e ns).out.length = ns.length + 1 := by
  have : ∀ (l : List Rw) (s : BS), (l.foldl (BS.step total e) s).out.length = s.out.length + l.length := by
    intro l
    induction l with
    | nil => intro s; rfl
    | cons a l ih => intro s; rw [List.foldl_cons, ih]; simp only [BS.step, List.length_append, List.length_cons, List.length_nil]; omega
  unfold begF
  rw [this]; simp; omega
theorem IntsAre.append {vs ws : List Value} {ns ms : List Int} (h : IntsAre vs ns) (k : IntsAre ws ms) : IntsAre (vs ++ ws) (ns ++ ms) := by
  induction h with
  | nil => exact k
  | cons n t _ ih => exact .cons n t ih
theorem intsLen {vs : List Value} {ns : List Int} (h : IntsAre vs ns) : vs.length = ns.length := by
  induction h with
  | nil => rfl
  | cons n t _ ih => simp [ih]
theorem IntsAre.rds {H : Led} {vs : List Value} {ns : List Int} (h : IntsAre vs ns) : Rds H vs (ns.map .int) := by
  induction h with
  | nil => exact .nil
  | cons n t _ ih => exact .cons .int ih
inductive BegJ (R fd : Addr) (H : Led) (T : Int) (u : Tok) (e : Int) (te : Tok) (z : BS) (m' : Mp) (H' : Led) : Prop
  | mk (of : Obj) (os : List Value) (ta tb : Tok) (kn : Kn [(Str.ofString "found", .ref fd), (Str.ofString "fixed", .int z.fx ta), (Str.ofString "flexed", .int z.fl tb), (Str.ofString "total", .int T u), (Str.ofString "rows", .ref R), (Str.ofString "excess", .int e te)] m') (e' : H' = (fd, of) :: H) (h1 : PlL of os) (h2 : IntsAre os z.out) : BegJ R fd H T u e te z m' H'
set_option maxHeartbeats 4000000
section
variable {c : Cfg} {sc : Scope} {m : Mp} {H : Led} {P : Value → Mp → Led → Prop}
theorem law_begins_pos {R : Addr} {oR : Obj} {ws : List Value} {rs : List Rw} {e : Int} {te : Tok} (f : Fn c sc) (r : Room c 1) (hh : Hn c) (hm : (R, oR) ∈ H) (hl : IsL oR ws) (hr : Rws H ws rs) (hlen : rs.length ≤ 100)
    (he : -1000 ≤ e ∧ e ≤ 1000) (he0 : 0 < e) (h1 : 0 ≤ sumOf Rw.st rs ∧ sumOf Rw.st rs ≤ 2 ^ 40) (h2 : 0 ≤ sumOf Rw.sh rs ∧ sumOf Rw.sh rs ≤ 2 ^ 40)
    (h : ∀ a oa os H', (∀ p ∈ H, p ∈ H') → (a, oa) ∈ H' → PlL oa os → IntsAre os (begF (totalOf e rs) e rs).out → P (.ref a) m H') :
    W c (call (.ref 635) [.ref R, .int e te]) m H P := by
  refine fn_law_begins (k := 0) f r [(Str.ofString "rows", .ref R), (Str.ofString "excess", .int e te)] (fun s _ => BindsTo.of_eq (by kernel_rfl)) (by kernel_rfl) ?_
  intro c' hw f' r' n'
  have hh' := n' hh
  have hwl := hr.length
  show W c' (execs (_ :: _) _) _ _ _
  walk_at "go"
  refine S_assignTs (names := [Str.ofString "stretch", Str.ofString "shrink"]) ?_ (by with_unfolding_all rfl) (by rw [sw_scope f'.scope]; kernel_rfl)
  walk_at "go"
  refine W_comp (cl := []) f' (by with_unfolding_all rfl) (by decide) rfl (by decide) (by rfl) ?_
  walk_at "go"
  refine ⟨R, oR, ws, fun i ys H' => H = H' ∧ IntsAre ys ((rs.map Rw.st).take i), rfl, .inl hl, szl (by omega), ⟨rfl, .nil⟩, fun i ys H' h => h.1 ▸ hm, ?_, ?_⟩
  · rintro i ys H' m' c₂ v hv ⟨rfl, hy⟩ lk
    have f₂ := lk.fn f' rfl
    obtain ⟨n, hni, va, voa, t1, t2, t3, t4, t5, rfl, hva, hvo⟩ := hr.get hv
    refine tests_nil (ift rfl ?_)
    walk_at "go"
    refine X_tup hva hvo (k := 1) (j := 1) rfl rfl ?_
    refine ⟨rfl, ?_⟩
    rw [take_next (a := Rw.st n) (by rw [List.getElem?_map, hni]; rfl)]
    exact hy.append (.cons _ _ .nil)
  rintro ys1 H' a1 o1 ⟨eH1, hy1⟩ hpl1 fa1
  rw [List.take_of_length_le (by rw [List.length_map]; omega)] at hy1
  subst eH1
  walk_at "go"
  refine B_sum hh' (.head _) hpl1.isL hy1 fun u1 => ?_
  walk_at "go"
  refine W_drop ?_
  refine W_comp (cl := []) f' (by with_unfolding_all rfl) (by decide) rfl (by decide) (by rfl) ?_
  walk_at "go"
  refine ⟨R, oR, ws, fun i ys H' => H = H' ∧ IntsAre ys ((rs.map Rw.sh).take i), rfl, .inl hl, szl (by omega), ⟨rfl, .nil⟩, fun i ys H' h => h.1 ▸ hm, ?_, ?_⟩
  · rintro i ys H' m' c₂ v hv ⟨rfl, hy⟩ lk
    have f₂ := lk.fn f' rfl
    obtain ⟨n, hni, va, voa, t1, t2, t3, t4, t5, rfl, hva, hvo⟩ := hr.get hv
    refine tests_nil (ift rfl ?_)
    walk_at "go"
    refine X_tup hva hvo (k := 2) (j := 2) rfl rfl ?_
    refine ⟨rfl, ?_⟩
    rw [take_next (a := Rw.sh n) (by rw [List.getElem?_map, hni]; rfl)]
    exact hy.append (.cons _ _ .nil)
  rintro ys2 H' a2 o2 ⟨eH2, hy2⟩ hpl2 fa2
  rw [List.take_of_length_le (by rw [List.length_map]; omega)] at hy2
  subst eH2
  walk_at "go"
  refine B_sum hh' (.head _) hpl2.isL hy2 fun u2 => ?_
  walk_at "go"
  refine W_drop ?_
  refine N_tuple (fun tp ftp => ?_) (szl (Nat.le_of_ble_eq_true rfl))
  walk_at "go"
  refine U_tup hh' (.head _) .new rfl ?_
  refine W_drop ?_
  show W _ (assignInOrder [bindName c'.env _, bindName c'.env _] [_, _]) _ _ _
  walk_at "go"
  refine S_assignTs (names := [Str.ofString "found", Str.ofString "fixed", Str.ofString "flexed"]) ?_ (by with_unfolding_all rfl) (by rw [sw_scope f'.scope]; kernel_rfl)
  walk_at "go"
  refine N_list (fun fd ffd => ?_) (szl (Nat.le_of_ble_eq_true rfl))
  walk_at "go"
  rename_i tf tx ty
  refine N_tuple (fun tp ftp => ?_) (szl (Nat.le_of_ble_eq_true rfl))
  walk_at "go"
  refine U_tup hh' (.head _) .new rfl ?_
  refine W_drop ?_
  show W _ (assignInOrder [bindName c'.env _, bindName c'.env _, bindName c'.env _] [_, _, _]) _ _ _
  walk_at "go"
  have hT : totalOf e rs = (rs.map Rw.st).sum := by unfold totalOf sumOf; rw [if_pos he0]
  rw [hT] at h
  have hTb : 0 ≤ (rs.map Rw.st).sum ∧ (rs.map Rw.st).sum ≤ 2 ^ 40 := h1
  generalize (rs.map Rw.st).sum = T at *
  refine W_for f' ?_
  walk_at "go"
  refine ⟨R, oR, ws, fun i m' H' => BegJ R fd H T u1 e te (begF T e (rs.take i)) m' H', rfl, .inl hl, ⟨_, _, tx, ty, by walk_at "kn", rfl, PlL.new, .cons _ _ .nil⟩, ?_, ?_, .inl fun _ _ => rfl, ?_⟩
  · rintro i m' H' ⟨of, os, ta, tb, kn, rfl, hf, ho⟩
    exact .tail _ hm
  · rintro i m' H' c₂ v hv ⟨of, os, ta, tb, kn, rfl, hf, ho⟩ lk
    have f₂ := lk.fn f'
    have r₂ := lk.room r'
    have hh₂ := lk.hn hh'
    obtain ⟨n, hni, va, voa, t1, t2, t3, t4, t5, rfl, hva, hvo⟩ := hr.get hv
    have hos : os.length ≤ 101 := by
      have := intsLen ho
      rw [begF_len, List.length_take] at this
      omega
    try dsimp only
    rw [begF_next hni]
    generalize begF T e (rs.take i) = z at *
    refine W_know kn ?_
    walk_at "go"
    refine X_tup (.tail _ hva) hvo (k := 0) (j := 0) rfl rfl ?_
    walk_at "go"
    refine X_tup (.tail _ hva) hvo (k := 1) (j := 1) rfl rfl ?_
    walk_at "go"
    have ha : 0 ≤ (if e < 0 then -e else e) ∧ (if e < 0 then -e else e) ≤ 1000 := by split <;> omega
    have es : z.step T e n = ⟨z.fx + n.w, z.fl + Rw.st n, z.out ++ [z.fx + n.w + farI T e (z.fl + Rw.st n)]⟩ := by unfold BS.step; rw [if_pos he0, if_pos he0]
    rw [es]
    by_cases hz : T = 0
    · have e0 : farI T e (z.fl + Rw.st n) = 0 := by unfold farI; rw [if_pos hz]
      walk_at "go"
      refine M_append (.head _) hf ?_
      walk_at "go"
      refine C_append (.head _) hf (by rw [sizeLine_eq]; omega) fun of' hf' => ⟨_, put_head ffd, ?_⟩
      walk_at "go"
      refine ⟨_, _, _, _, by walk_at "kn", rfl, hf', ?_⟩
      rw [e0]
      exact ho.append (.cons _ _ .nil)
    · have e0 : farI T e (z.fl + Rw.st n) = (2 * (if e < 0 then -e else e) * (z.fl + Rw.st n) + T).fdiv (2 * T) := by unfold farI; rw [if_neg hz]
      rw [e0]
      walk_at "go"
      generalize (if e < 0 then -e else e) = ae at *
      refine V_mulL (fun q1 => ?_) (by decide)
      walk_at "go"
      refine V_mulL (fun q2 => ?_) (by omega)
      walk_at "go"
      refine V_mulL (fun q3 => ?_) (by decide)
      refine V_fdiv (by omega) (by omega) fun q4 => ?_
      walk_at "go"
      refine M_append (.head _) hf ?_
      walk_at "go"
      refine C_append (.head _) hf (by rw [sizeLine_eq]; omega) fun of' hf' => ⟨_, put_head ffd, ?_⟩
      walk_at "go"
      refine ⟨_, _, _, _, by walk_at "kn", rfl, hf', ?_⟩
      exact ho.append (.cons _ _ .nil)
  · rintro m' H' ⟨of, os, ta, tb, kn, rfl, hf, ho⟩
    rw [List.take_of_length_le (by omega)] at kn ho
    refine Seq_next (W_know kn ?_)
    walk_at "go"
    exact h fd of os _ (fun p hp => .tail _ hp) (.head _) hf ho
theorem law_begins_neg {R : Addr} {oR : Obj} {ws : List Value} {rs : List Rw} {e : Int} {te : Tok} (f : Fn c sc) (r : Room c 1) (hh : Hn c) (hm : (R, oR) ∈ H) (hl : IsL oR ws) (hr : Rws H ws rs) (hlen : rs.length ≤ 100)
    (he : -1000 ≤ e ∧ e ≤ 1000) (he0 : ¬ 0 < e) (h1 : 0 ≤ sumOf Rw.st rs ∧ sumOf Rw.st rs ≤ 2 ^ 40) (h2 : 0 ≤ sumOf Rw.sh rs ∧ sumOf Rw.sh rs ≤ 2 ^ 40)
    (h : ∀ a oa os H', (∀ p ∈ H, p ∈ H') → (a, oa) ∈ H' → PlL oa os → IntsAre os (begF (totalOf e rs) e rs).out → P (.ref a) m H') :
    W c (call (.ref 635) [.ref R, .int e te]) m H P := by
  refine fn_law_begins (k := 0) f r [(Str.ofString "rows", .ref R), (Str.ofString "excess", .int e te)] (fun s _ => BindsTo.of_eq (by kernel_rfl)) (by kernel_rfl) ?_
  intro c' hw f' r' n'
  have hh' := n' hh
  have hwl := hr.length
  show W c' (execs (_ :: _) _) _ _ _
  walk_at "go"
  refine S_assignTs (names := [Str.ofString "stretch", Str.ofString "shrink"]) ?_ (by with_unfolding_all rfl) (by rw [sw_scope f'.scope]; kernel_rfl)
  walk_at "go"
  refine W_comp (cl := []) f' (by with_unfolding_all rfl) (by decide) rfl (by decide) (by rfl) ?_
  walk_at "go"
  refine ⟨R, oR, ws, fun i ys H' => H = H' ∧ IntsAre ys ((rs.map Rw.st).take i), rfl, .inl hl, szl (by omega), ⟨rfl, .nil⟩, fun i ys H' h => h.1 ▸ hm, ?_, ?_⟩
  · rintro i ys H' m' c₂ v hv ⟨rfl, hy⟩ lk
    have f₂ := lk.fn f' rfl
    obtain ⟨n, hni, va, voa, t1, t2, t3, t4, t5, rfl, hva, hvo⟩ := hr.get hv
    refine tests_nil (ift rfl ?_)
    walk_at "go"
    refine X_tup hva hvo (k := 1) (j := 1) rfl rfl ?_
    refine ⟨rfl, ?_⟩
    rw [take_next (a := Rw.st n) (by rw [List.getElem?_map, hni]; rfl)]
    exact hy.append (.cons _ _ .nil)
  rintro ys1 H' a1 o1 ⟨eH1, hy1⟩ hpl1 fa1
  rw [List.take_of_length_le (by rw [List.length_map]; omega)] at hy1
  subst eH1
  walk_at "go"
  refine B_sum hh' (.head _) hpl1.isL hy1 fun u1 => ?_
  walk_at "go"
  refine W_drop ?_
  refine W_comp (cl := []) f' (by with_unfolding_all rfl) (by decide) rfl (by decide) (by rfl) ?_
  walk_at "go"
  refine ⟨R, oR, ws, fun i ys H' => H = H' ∧ IntsAre ys ((rs.map Rw.sh).take i), rfl, .inl hl, szl (by omega), ⟨rfl, .nil⟩, fun i ys H' h => h.1 ▸ hm, ?_, ?_⟩
  · rintro i ys H' m' c₂ v hv ⟨rfl, hy⟩ lk
    have f₂ := lk.fn f' rfl
    obtain ⟨n, hni, va, voa, t1, t2, t3, t4, t5, rfl, hva, hvo⟩ := hr.get hv
    refine tests_nil (ift rfl ?_)
    walk_at "go"
    refine X_tup hva hvo (k := 2) (j := 2) rfl rfl ?_
    refine ⟨rfl, ?_⟩
    rw [take_next (a := Rw.sh n) (by rw [List.getElem?_map, hni]; rfl)]
    exact hy.append (.cons _ _ .nil)
  rintro ys2 H' a2 o2 ⟨eH2, hy2⟩ hpl2 fa2
  rw [List.take_of_length_le (by rw [List.length_map]; omega)] at hy2
  subst eH2
  walk_at "go"
  refine B_sum hh' (.head _) hpl2.isL hy2 fun u2 => ?_
  walk_at "go"
  refine W_drop ?_
  refine N_tuple (fun tp ftp => ?_) (szl (Nat.le_of_ble_eq_true rfl))
  walk_at "go"
  refine U_tup hh' (.head _) .new rfl ?_
  refine W_drop ?_
  show W _ (assignInOrder [bindName c'.env _, bindName c'.env _] [_, _]) _ _ _
  walk_at "go"
  refine S_assignTs (names := [Str.ofString "found", Str.ofString "fixed", Str.ofString "flexed"]) ?_ (by with_unfolding_all rfl) (by rw [sw_scope f'.scope]; kernel_rfl)
  walk_at "go"
  refine N_list (fun fd ffd => ?_) (szl (Nat.le_of_ble_eq_true rfl))
  walk_at "go"
  rename_i tf tx ty
  refine N_tuple (fun tp ftp => ?_) (szl (Nat.le_of_ble_eq_true rfl))
  walk_at "go"
  refine U_tup hh' (.head _) .new rfl ?_
  refine W_drop ?_
  show W _ (assignInOrder [bindName c'.env _, bindName c'.env _, bindName c'.env _] [_, _, _]) _ _ _
  walk_at "go"
  have hT : totalOf e rs = (rs.map Rw.sh).sum := by unfold totalOf sumOf; rw [if_neg he0]
  rw [hT] at h
  have hTb : 0 ≤ (rs.map Rw.sh).sum ∧ (rs.map Rw.sh).sum ≤ 2 ^ 40 := h2
  generalize (rs.map Rw.sh).sum = T at *
  refine W_for f' ?_
  walk_at "go"
  refine ⟨R, oR, ws, fun i m' H' => BegJ R fd H T u2 e te (begF T e (rs.take i)) m' H', rfl, .inl hl, ⟨_, _, tx, ty, by walk_at "kn", rfl, PlL.new, .cons _ _ .nil⟩, ?_, ?_, .inl fun _ _ => rfl, ?_⟩
  · rintro i m' H' ⟨of, os, ta, tb, kn, rfl, hf, ho⟩
    exact .tail _ hm
  · rintro i m' H' c₂ v hv ⟨of, os, ta, tb, kn, rfl, hf, ho⟩ lk
    have f₂ := lk.fn f'
    have r₂ := lk.room r'
    have hh₂ := lk.hn hh'
    obtain ⟨n, hni, va, voa, t1, t2, t3, t4, t5, rfl, hva, hvo⟩ := hr.get hv
    have hos : os.length ≤ 101 := by
      have := intsLen ho
      rw [begF_len, List.length_take] at this
      omega
    try dsimp only
    rw [begF_next hni]
    generalize begF T e (rs.take i) = z at *
    refine W_know kn ?_
    walk_at "go"
    refine X_tup (.tail _ hva) hvo (k := 0) (j := 0) rfl rfl ?_
    walk_at "go"
    refine X_tup (.tail _ hva) hvo (k := 2) (j := 2) rfl rfl ?_
    walk_at "go"
    have ha : 0 ≤ (if e < 0 then -e else e) ∧ (if e < 0 then -e else e) ≤ 1000 := by split <;> omega
    have es : z.step T e n = ⟨z.fx + n.w, z.fl + Rw.sh n, z.out ++ [z.fx + n.w - farI T e (z.fl + Rw.sh n)]⟩ := by unfold BS.step; rw [if_neg he0, if_neg he0]
    rw [es]
    by_cases hz : T = 0
    · have e0 : farI T e (z.fl + Rw.sh n) = 0 := by unfold farI; rw [if_pos hz]
      walk_at "go"
      refine M_append (.head _) hf ?_
      walk_at "go"
      refine C_append (.head _) hf (by rw [sizeLine_eq]; omega) fun of' hf' => ⟨_, put_head ffd, ?_⟩
      walk_at "go"
      refine ⟨_, _, _, _, by walk_at "kn", rfl, hf', ?_⟩
      rw [e0]
      exact ho.append (.cons _ _ .nil)
    · have e0 : farI T e (z.fl + Rw.sh n) = (2 * (if e < 0 then -e else e) * (z.fl + Rw.sh n) + T).fdiv (2 * T) := by unfold farI; rw [if_neg hz]
      rw [e0]
      walk_at "go"
      generalize (if e < 0 then -e else e) = ae at *
      refine V_mulL (fun q1 => ?_) (by decide)
      walk_at "go"
      refine V_mulL (fun q2 => ?_) (by omega)
      walk_at "go"
      refine V_mulL (fun q3 => ?_) (by decide)
      refine V_fdiv (by omega) (by omega) fun q4 => ?_
      walk_at "go"
      refine M_append (.head _) hf ?_
      walk_at "go"
      refine C_append (.head _) hf (by rw [sizeLine_eq]; omega) fun of' hf' => ⟨_, put_head ffd, ?_⟩
      walk_at "go"
      refine ⟨_, _, _, _, by walk_at "kn", rfl, hf', ?_⟩
      exact ho.append (.cons _ _ .nil)
  · rintro m' H' ⟨of, os, ta, tb, kn, rfl, hf, ho⟩
    rw [List.take_of_length_le (by omega)] at kn ho
    refine Seq_next (W_know kn ?_)
    walk_at "go"
    exact h fd of os _ (fun p hp => .tail _ hp) (.head _) hf ho
theorem law_begins_c {R : Addr} {oR : Obj} {ws : List Value} {rs : List Rw} {e : Int} {te : Tok} (f : Fn c sc) (r : Room c 1) (hh : Hn c) (hm : (R, oR) ∈ H) (hl : IsL oR ws) (hr : Rws H ws rs) (hlen : rs.length ≤ 100)
    (he : -1000 ≤ e ∧ e ≤ 1000) (h1 : 0 ≤ sumOf Rw.st rs ∧ sumOf Rw.st rs ≤ 2 ^ 40) (h2 : 0 ≤ sumOf Rw.sh rs ∧ sumOf Rw.sh rs ≤ 2 ^ 40)
    (h : ∀ a oa os H', (∀ p ∈ H, p ∈ H') → (a, oa) ∈ H' → PlL oa os → IntsAre os (begF (totalOf e rs) e rs).out → P (.ref a) m H') :
    W c (call (.ref 635) [.ref R, .int e te]) m H P := by
  by_cases he0 : 0 < e
  · exact law_begins_pos f r hh hm hl hr hlen he he0 h1 h2 h
  · exact law_begins_neg f r hh hm hl hr hlen he he0 h1 h2 h
end

-- MR1
/-- an exception of the class at 68 under way, the frames `l` still to leave, the frames' objects `S` known up to their slots -/
structure Fly (B : Heap) (S : Led) (l : List Env) (e : Addr) (fl : Option Value) (h : Heap) : Prop where
  stays : B.StaysIn h
  fresh : B.get? e = none
  frames : h.FunFrames B l
  slots : ∀ p ∈ S, (∀ vs, p.2.data ≠ .fields vs) ∧ ∃ sl, h.get? p.1 = some { p.2 with slots := sl }
  exc : ∃ oe vs, h.get? e = some oe ∧ oe.cls = .ref 68 ∧ oe.data = .fields vs ∧ 1 < vs.size ∧ vs[2]? = some .none ∧
    ∀ f, fl = some f → ∃ T oT ts, vs[1]? = some (.ref T) ∧ B.get? T = none ∧ T ≠ e ∧ h.get? T = some oT ∧ oT.data = .fields ts ∧ ts[3]? = some f

/-- a heap in which only records have changed -/
theorem Fly.step {B : Heap} {S : Led} {l : List Env} {e : Addr} {fl fl' : Option Value} {h h' : Heap} (F : Fly B S l e fl h) (hk : ∀ b o, h.get? b = some o → (∀ vs, o.data ≠ .fields vs) → ∃ sl, h'.get? b = some { o with slots := sl })
    (hb : B.StaysIn h') (hx : ∃ oe vs, h'.get? e = some oe ∧ oe.cls = .ref 68 ∧ oe.data = .fields vs ∧ 1 < vs.size ∧ vs[2]? = some .none ∧
    ∀ f, fl' = some f → ∃ T oT ts, vs[1]? = some (.ref T) ∧ B.get? T = none ∧ T ≠ e ∧ h'.get? T = some oT ∧ oT.data = .fields ts ∧ ts[3]? = some f) : Fly B S l e fl' h' where
  stays := hb
  fresh := F.fresh
  frames := F.frames.of_keeps fun b o x y => by obtain ⟨sl, z⟩ := hk b o x y; exact ⟨_, z, rfl⟩
  slots := fun p hp => by
    obtain ⟨a, sl, b⟩ := F.slots p hp
    obtain ⟨sl', z⟩ := hk p.1 _ b a
    exact ⟨a, sl', z⟩
  exc := hx
section
variable {M : Model} {A : Around} {E : Value → Shared → Prop} {s : Shared} {B : Heap} {S : Led} {env : Env} {outer : List Env} {L e : Addr} {fl : Option Value} {Q : Unit → Shared → Prop}
theorem Fly.entry {head : Value} {had : Bool} (hfr : A.frames = some (env :: outer)) (hf : env.frame = some L) (F : Fly B S (env :: outer) e fl s.heap)
    (h : ∀ h', Fly B S (env :: outer) e (some (rawInt L)) h' → Q () { s with heap := h' }) :
    wpAny M A (do let a ← frameOf env; let pl ← entryPlaceOf L had; let b ← EntryCells.newEntry head a .none (rawInt L) .none pl; setField (.ref e) 1 b) Q E s := by
  obtain ⟨oe, vs, he, hc, hd, h1, h2, -⟩ := F.exc
  have hne : e ∉ (env :: outer).filterMap (·.frame) := fun hm => by
    obtain ⟨_, o, ho, hn⟩ := F.frames.mem hm
    rw [he] at ho; cases ho; exact hn vs hd
  refine wpAny_bind (wpAny_frameOf_fun hfr F.frames hf fun g hs => ?_)
  refine wpAny_bind (wpAny_entryPlaceOf fun pl hpl => ?_)
  unfold EntryCells.newEntry newFields
  refine wpAny_bind (wpAny_newObj_type ?_ (hpl.sizeOk5 _ _ _ _ _))
  have heg : g.get? e = some oe := (hs.2.1 e hne).trans he
  have stg : B.StaysIn g := fun b o q => (hs.2.1 b fun hm => by rw [(F.frames.mem hm).1] at q; cases q).trans (F.stays b o q)
  dsimp only
  generalize hT : ({ cls := .type "traceback", dict := none, data := .fields ([head, .ref L, .none, rawInt L, .none] ++ (if pl.isEmpty then List.replicate 6 Value.none else pl)).toArray } : Obj) = tb
  have heg2 := Heap.get?_push_of_some (h := g) tb heg
  have hne2 : g.objs.size ≠ e := Nat.ne_of_gt (Heap.lt_size heg)
  refine wpAny_setField heg2 hd h1 (h _ ?_)
  have kp : ∀ b o, b ≠ e → g.get? b = some o → ((g.push tb).update e (Obj.mapFields (·.setIfInBounds 1 (.ref g.objs.size)))).get? b = some o := fun b o q r => by
    rw [Heap.get?_update_other _ _ (Ne.symm q)]; exact Heap.get?_push_of_some _ r
  have hd3 := Obj.data_mapFields hd (·.setIfInBounds 1 (Value.ref g.objs.size))
  have ftb : tb.isFreed = false := by subst hT; rfl
  refine F.step (fun b o q r => ?_) (fun b o q => kp b o (fun z => by rw [z, F.fresh] at q; cases q) (stg b o q)) ⟨_, _, Heap.get?_update_self _ heg2 (Obj.isFreed_of_fields hd3), (Obj.cls_mapFields _ _).trans hc, hd3, ?_, ?_, ?_⟩
  · obtain ⟨sl, z⟩ := hs.2.2 b o q
    exact ⟨sl, kp b _ (fun w => by rw [w, he] at q; cases q; exact r vs hd) z⟩
  · rw [Array.size_setIfInBounds]; exact h1
  · rw [Array.getElem?_setIfInBounds_ne (by decide)]; exact h2
  · intro f hff
    cases hff
    refine ⟨g.objs.size, tb, _, by rw [Array.getElem?_setIfInBounds_self_of_lt h1], stg.fresh, hne2, ?_, by rw [← hT], ?_⟩
    · rw [Heap.get?_update_other _ _ (Ne.symm hne2)]; exact Heap.get?_push_size g ftb
    · simp
theorem Fly.land {f : Value} {l : List Env} (F : Fly B S l e (some f) s.heap) (h : ∀ h', Fly B S l e (some .none) h' → Q () { s with heap := h' }) : wpAny M A (setFlight (.ref e) none) Q E s := by
  obtain ⟨oe, vs, he, hc, hd, h1, h2, h3⟩ := F.exc
  obtain ⟨T, oT, ts, t1, t2, t3, t4, t5, t6⟩ := h3 f rfl
  have sz : 3 < ts.size := (Array.getElem?_eq_some_iff.mp t6).1
  unfold setFlight
  refine wpAny_bind (wpAny_field he hd t1 ?_)
  rw [if_pos (show (Value.ref T != Value.none) = true from by simp)]
  refine wpAny_setField t4 t5 sz (h _ ?_)
  have other : ∀ b, b ≠ T → (s.heap.update T (Obj.mapFields (·.setIfInBounds 3 ((none : Option Addr).elim Value.none fun f => rawInt f)))).get? b = s.heap.get? b := fun b q => Heap.get?_update_other _ _ (Ne.symm q)
  have dT := Obj.data_mapFields t5 (·.setIfInBounds 3 ((none : Option Addr).elim Value.none fun f => rawInt f))
  refine F.step (fun b o q r => ⟨o.slots, ?_⟩) (fun b o q => ?_) ⟨oe, vs, ?_, hc, hd, h1, h2, fun g hg => ⟨T, _, _, t1, t2, t3, Heap.get?_update_self _ t4 (Obj.isFreed_of_fields dT), dT, ?_⟩⟩
  · exact (other b fun w => by rw [w, t4] at q; cases q; exact r ts t5).trans q
  · exact (other b fun w => by rw [w, t2] at q; cases q).trans (F.stays b o q)
  · exact (other e (Ne.symm t3)).trans he
  · cases hg
    simp [sz]
theorem Fly.note_first (hfr : A.frames = some (env :: outer)) (hf : env.frame = some L) (F : Fly B S (env :: outer) e none s.heap) (hn : ∀ oe vs, s.heap.get? e = some oe → oe.data = .fields vs → vs[1]? = some .none)
    (h : ∀ h', Fly B S (env :: outer) e (some (rawInt L)) h' → Q () { s with heap := h' }) : wpAny M A (noteFrame (.ref e) env) Q E s := by
  obtain ⟨oe, vs, he, hc, hd, h1, h2, -⟩ := F.exc
  unfold noteFrame
  simp only [hf]
  refine wpAny_bind (wpAny_field he hd (hn _ _ he hd) ?_)
  rw [if_neg (by decide)]
  exact F.entry hfr hf h
theorem Fly.note_next (hfr : A.frames = some (env :: outer)) (hf : env.frame = some L) (F : Fly B S (env :: outer) e (some .none) s.heap)
    (h : ∀ h', Fly B S (env :: outer) e (some (rawInt L)) h' → Q () { s with heap := h' }) : wpAny M A (noteFrame (.ref e) env) Q E s := by
  obtain ⟨oe, vs, he, hc, hd, h1, h2, h3⟩ := F.exc
  obtain ⟨T, oT, ts, t1, t2, t3, t4, t5, t6⟩ := h3 _ rfl
  unfold noteFrame
  simp only [hf]
  refine wpAny_bind (wpAny_field he hd t1 ?_)
  rw [if_pos (show (Value.ref T != Value.none) = true from by simp)]
  refine wpAny_bind (wpAny_field t4 t5 t6 ?_)
  rw [if_neg (show ¬ ((Value.none == rawInt L) = true) from by simp [rawInt])]
  refine wpAny_bind (wpAny_setField t4 t5 (Array.getElem?_eq_some_iff.mp t6).1 ?_)
  have other : ∀ b, b ≠ T → (s.heap.update T (Obj.mapFields (·.setIfInBounds 3 Value.none))).get? b = s.heap.get? b := fun b q => Heap.get?_update_other _ _ (Ne.symm q)
  refine Fly.entry (s := { s with heap := s.heap.update T (Obj.mapFields (·.setIfInBounds 3 Value.none)) }) (fl := none) hfr hf (F.step (fun b o q r => ⟨o.slots, ?_⟩) (fun b o q => ?_) ⟨oe, vs, ?_, hc, hd, h1, h2, fun _ q => nomatch q⟩) h
  · exact (other b fun w => by rw [w, t4] at q; cases q; exact r ts t5).trans q
  · exact (other b fun w => by rw [w, t2] at q; cases q).trans (F.stays b o q)
  · exact (other e (Ne.symm t3)).trans he
theorem Fly.leave_first (hfr : A.frames = some (env :: outer)) (hf : env.frame = some L) (F : Fly B S (env :: outer) e none s.heap) (hn : ∀ oe vs, s.heap.get? e = some oe → oe.data = .fields vs → vs[1]? = some .none)
    (h : ∀ h', Fly B S outer e (some .none) h' → Q () { s with heap := h' }) : wpAny M A (leaving env (.ref e)) Q E s := by
  unfold leaving
  refine wpAny_bind (F.note_first hfr hf hn fun h' F' => Fly.land (s := { s with heap := h' }) F' fun h2 F2 => h h2 ⟨F2.stays, F2.fresh, F2.frames.2.2, F2.slots, F2.exc⟩)
theorem Fly.leave_next (hfr : A.frames = some (env :: outer)) (hf : env.frame = some L) (F : Fly B S (env :: outer) e (some .none) s.heap)
    (h : ∀ h', Fly B S outer e (some .none) h' → Q () { s with heap := h' }) : wpAny M A (leaving env (.ref e)) Q E s := by
  unfold leaving
  refine wpAny_bind (F.note_next hfr hf fun h' F' => Fly.land (s := { s with heap := h' }) F' fun h2 F2 => h h2 ⟨F2.stays, F2.fresh, F2.frames.2.2, F2.slots, F2.exc⟩)
end

-- MR2
section
variable {prog : Program} {w : World} {A : Around} {E : Value → Shared → Prop} {M : Model} {R : Result → Shared → Prop} {h : Heap} {g : Array GenState} {d : Drawn} {t : Nat} {os : OsState}
noncomputable abbrev ovMro : List Value := [.ref 43, .type "ValueError", .type "Exception", .type "BaseException", .type "object"]
noncomputable abbrev ovObj : Obj := excClassObj (Str.ofString "Overflow") (Str.ofString "Overflow") 68 67 [.ref 43] ovMro true [] [] false none none (some (.ref 59)) none (some (.str (Str.ofString "Overflow") 257)) (some (.str (Str.ofString "Overflow") 265)) (some (.bool true)) "ValueError.__new__"
theorem ov_obj (P : Params) : k68 P = ovObj := rfl
theorem ov_has (T : String) (hT : T = "ValueError" ∨ T = "BaseException") : (Value.ref 68 :: ovMro).contains (.type T) = true := by rcases hT with rfl | rfl <;> decide +kernel
theorem ov_check_new {rest : List Value} {Q : Unit → Shared → Prop} (hC : h.get? 68 = some ovObj) (hq : Q () ⟨h, g, d, t, os⟩) : wpAny M A (checkBuiltinCall "ValueError.__new__" ⟨.ref 68 :: rest, []⟩) Q E ⟨h, g, d, t, os⟩ := by
  have F := PySem.F.excBase_ValueError
  have hcont := ov_has "ValueError" (.inl rfl)
  have hstar := F.noStar
  simp only [checkBuiltinCall, F.newKind, F.newSplit, F.newRow]
  repeat (first | refine wpAny_loadPart_at hC ?_ | (refine wpAny_isSubtype_exc hC ?_; rw [hcont]) | refine wpAny_staticBase_exc hC ?_ | refine wpAny_madeBy_exc hC ?_ | simp only [bne_self_eq_false, Bool.false_eq_true, if_false] | wp_step)
  exact hq
theorem ov_new {rest : List Value} (hC : h.get? 68 = some ovObj) (hrest : rest.length ≤ sizeLine)
    (hq : R (.ok (.ret (.ref (h.objs.size + 1)))) ⟨(h.push { cls := .type "tuple", data := .seq rest.toArray }).push { cls := .ref 68, data := .fields #[.ref h.objs.size, .none, .none, .none, .bool false, .none] }, g, d, t, os⟩) :
    codeAny (model prog w) A (.builtin "ValueError.__new__" ⟨.ref 68 :: rest, []⟩) R ⟨h, g, d, t, os⟩ := by
  have F := PySem.F.excBase_ValueError
  have hends := F.ends
  have hcB := ov_has "BaseException" (.inr rfl)
  have hcV := ov_has "ValueError" (.inl rfl)
  have hcA : (Value.ref 68 :: ovMro).contains (.type "AttributeError") = false := by decide +kernel
  have hcN : (Value.ref 68 :: ovMro).contains (.type "NameError") = false := by decide +kernel
  refine codeAny_builtinAt F.entry ?_
  unfold Builtin.«BaseException.__new__»
  refine PySem.wpAt_bind ?_
  show PySem.wpAt _ _ _ (stack >>= _) _ _ _
  refine PySem.wpAt_bind (PySem.wpAt_stack fun p below => PySem.wpAt_of_wpAny ?_)
  wp_walk
  refine PySem.wpAt_of_wpAny ?_
  rw [F.owner]
  repeat (first | with_reducible refine wpAny_madeHere_exc F.canon hC ?_ | with_reducible refine wpAny_loadPart_at hC ?_ | (with_reducible refine wpAny_isSubtype_exc hC ?_; first | rw [hcV] | rw [hcB] | rw [hcA] | rw [hcN]) | wp_step)
  show R _ _
  rw [Heap.size_push]
  exact hq
theorem ov_type_call {P : Params} {rest : List Value} {Q : Fin → Shared → Prop} (hK : (kk P).In h) (hC : h.get? 68 = some ovObj) (hrest : rest.length ≤ sizeLine)
    (hq : ∀ h' e, Heap.MadeExcOf h h' e (.ref 68) rest → wpAny (model prog w) A (call (.ref 40) (.ref e :: rest)) (fun r s' => r = .none ∧ Q (.done (.ret (.ref e))) s') E ⟨h', g, d, t, os⟩) :
    wpAny (model prog w) A (Builtin.«type.__call__» ⟨.ref 68 :: rest, []⟩) Q E ⟨h, g, d, t, os⟩ := by
  have F := PySem.F.excBase_ValueError
  repeat (first | with_reducible refine wpAny_loadPart_at hC ?_ | with_reducible refine wpAny_madeBy_exc hC ?_ | wp_step)
  refine codeAny_call_builtin_code (Code.quiet_builtin _ F.quiet) (ov_check_new hC ?_)
  refine ov_new hC hrest ?_
  show wpAny _ _ _ _ _ _
  have kp : ∀ b o, h.get? b = some o → ((h.push { cls := .type "tuple", data := .seq rest.toArray }).push { cls := .ref 68, data := .fields #[.ref h.objs.size, .none, .none, .none, .bool false, .none] }).get? b = some o :=
    fun b o q => Heap.get?_push_of_some _ (Heap.get?_push_of_some _ q)
  have hC₁ := kp _ _ hC
  have hK₁ : (kk P).In _ := hK.keeps kp
  have hget : ((h.push { cls := .type "tuple", data := .seq rest.toArray }).push { cls := .ref 68, data := .fields #[.ref h.objs.size, .none, .none, .none, .bool false, .none] }).get? (h.objs.size + 1) = some
      { cls := .ref 68, data := .fields #[.ref h.objs.size, .none, .none, .none, .bool false, .none] } := by heap_get
  have hcC : (Value.ref 68 :: ovMro).contains (.ref 68) = true := by decide +kernel
  unfold isInstance
  repeat (first | with_reducible refine wpAny_loadPart_at hget ?_ | (with_reducible refine wpAny_isSubtype_exc hC₁ ?_; rw [hcC]) | wp_step)
  refine (looks_findIn hK₁ (show findIn (kk P) (.ref 68) "__init__" = some (some (.ref 40)) by kernel_rfl)).here ?_
  refine wpAny_holding (wpAny_bind ?_)
  refine (bind_fn hK₁ _ (show typeIn (kk P) (.ref 40) = some (.type "function") by kernel_rfl)).here ?_
  refine wpAny_bind (wpAny_mono (hq _ (h.objs.size + 1) ⟨kp, Heap.get?_none_of_le (Nat.le_succ _), h.objs.size, hget, Heap.get?_none_of_le (Nat.le_refl _), ?_⟩) (fun r s' hr => ?_) fun _ _ x => x)
  · exact Heap.get?_push_of_some _ (Heap.get?_push_at rfl rfl)
  · obtain ⟨rfl, hQ⟩ := hr
    wp_walk
    exact hQ
theorem ov_call {P : Params} {rest : List Value} {Q : Value → Shared → Prop} (hK : (kk P).In h) (hrest : rest.length ≤ sizeLine)
    (hq : ∀ h' e, Heap.MadeExcOf h h' e (.ref 68) rest → wpAny (model prog w) (A.under (.builtin "type.__call__" ⟨.ref 68 :: rest, []⟩)) (call (.ref 40) (.ref e :: rest)) (fun r s' => r = .none ∧ Q (.ref e) s') E ⟨h', g, d, t, os⟩) :
    wpAny (model prog w) A (call (.ref 68) rest) Q E ⟨h, g, d, t, os⟩ := by
  have hC : h.get? 68 = some ovObj := hK 68 _ (show (kk P).lookup 68 = some (k68 P) by kernel_rfl)
  have f1 := tc_lookup
  have f2 := tc_bind (.ref 68)
  have hT : (⟨h, g, d, t, os⟩ : Shared).TypeIs (.ref 68) "type" := ⟨_, hC, rfl⟩
  refine wpAny_call (codeAny_of_tree ?_)
  show wpAny _ _ (callAny (.ref 68) _) _ _ _
  repeat (any_goals (first | assumption | with_reducible refine wpAny_loadPart_at hC ?_ | wp_step))
  refine ⟨rfl, ?_⟩
  exact codeAny_call_builtin_at (Code.quiet_builtin _ (by decide +kernel)) entry_typeCall (wpAny_check_type_call_sub hC (ov_type_call hK hC hrest hq))
/-- `raise Overflow(..)`: the statement, when the class has made the object -/
theorem ov_raise {env : Env} {s : Shared} {x : Sem Value} {Q : Flow → Shared → Prop} (hh : A.handled = none)
    (hx : wpAny M A x (fun v s₁ => ∃ e oe, v = .ref e ∧ s₁.heap.get? 68 = some ovObj ∧ s₁.heap.get? e = some oe ∧ oe.cls = .ref 68 ∧ (∃ vs, oe.data = .fields vs ∧ vs[1]? = some .none) ∧ E (.ref e) s₁) E s) :
    wpAny M A (raiseStmt env (some x) none) Q E s := by
  have hcB := ov_has "BaseException" (.inr rfl)
  unfold raiseStmt
  refine wpAny_bind (wpAny_mono hx (fun v s₁ h₁ => ?_) fun _ _ x => x)
  obtain ⟨e, oe, rfl, hC, he, hc, ⟨vs, hd, h1⟩, hE⟩ := h₁
  obtain ⟨hp, g, d, tk, os⟩ := s₁
  obtain ⟨oc, od, oa, osl⟩ := oe
  dsimp only at hc hd
  subst hc hd
  repeat (first | with_reducible refine wpAny_loadPart_at he ?_ | with_reducible refine wpAny_loadPart_at hC ?_ | (with_reducible refine wpAny_isSubtype_exc hC ?_; rw [hcB]) | wp_step)
  rw [h1]
  refine wpAny_pure ?_
  rw [if_neg (by decide)]
  exact wpAny_pure (wpAny_raiseNew_none hh hE)
end

-- MR3
theorem ov_passes (self : Value) : refuseLoop self "__setattr__" (.ref 68 :: ovMro) = pure () := by
  rw [refuseLoop_ref, refuseLoop_ref]
  kernel_rfl
section
open PySem.Builtin PySem.Builtin.ObjectAttr
variable {prog : Program} {w : World} {A : Around} {E : Value → Shared → Prop} {s : Shared} {R : Result → Shared → Prop}
theorem ov_osa {P : Params} {e : Addr} {vs : Array Value} {sl : Array (Option Value)} {name : Str} {tk : Tok} {v : Value} (hK : (kk P).In s.heap) (he : s.heap.get? e = some ⟨.ref 68, none, .fields vs, sl⟩) (ht : takerIn (kk P) 68 name = some none)
    (h : ∀ h' tk dx, (∀ b o, b ≠ e → s.heap.get? b = some o → h'.get? b = some o) → h'.get? e = some ⟨.ref 68, some dx, .fields vs, sl⟩ → R (.ok (.ret .none)) { s with heap := h', toks := tk }) :
    codeAny (model prog w) A (.call (.builtin "object.__setattr__") ⟨[.ref e, .str name tk, v], []⟩) R s := by
  have I : InstAt s.heap e ⟨.ref 68, none, .fields vs, sl⟩ 68 none := ⟨he, rfl, rfl, trivial⟩
  have SF := PySem.F.store_object
  have sub : Looks (model prog w) s.heap (isInstance (.ref e) (.type "object")) true := I.type.andThen (looks_mroIn hK (show mroIn (kk P) 68 (.type "object") = some true by kernel_rfl))
  refine codeAny_call_builtin SF.slot.plain SF.entry (@check_slot (model prog w) _ _ _ "object.__setattr__" "object" "__setattr__" (.ref e) [.str name tk, v] [] _ SF.kind SF.split sub (SF.args (.ref e) (.str name tk) v) ?_)
  have cd : clsIn (kk P) 68 = some { name := Str.ofString "Overflow", bases := [.ref 43], mro := .ref 68 :: ovMro, ns := 67, qualname := Str.ofString "Overflow", hasDict := true, slotNames := [], subclasses := [], abstract := false, collection := none, hasDel := false } := by kernel_rfl
  have hm : Looks (model prog w) s.heap (mroOf (.ref 68)) (.ref 68 :: ovMro) := (looks_clsIn hK cd).andThen .now
  obtain ⟨attr, ha, hr⟩ := Option.bind_eq_some_iff.mp ht
  have L3 : Looks (model prog w) s.heap (storeTaker? attr) none := by
    cases attr with
    | none => exact .now
    | some a =>
      obtain ⟨b, hb, hz⟩ := Option.map_eq_some_iff.mp hr
      refine (looks_takesIn hK hb).andThen ?_
      cases b
      · exact .now
      · cases hz
  rw [osa_eq, refuse_eq]
  refine wpAny_bind (wpAny_bind (I.type.here (wpAny_bind (hm.here ?_))))
  rw [ov_passes]
  refine wpAny_pure (wpAny_bind (I.type.here (wpAny_bind ((looks_findIn hK ha).here (wpAny_bind (L3.here ?_))))))
  refine wpAny_bind (wpAny_pure (wpAny_bind (wpAny_bind (wpAny_loadPart he (wpAny_bind ((looks_clsIn hK cd).here ?_))))))
  dsimp only
  rw [if_neg (by decide), if_neg (by simp [typeHasDict])]
  refine wpAny_bind (wpAny_alloc ?_)
  have he1 := Heap.get?_push_of_some (h := s.heap) { cls := .type "dict", data := .dict #[] } he
  refine wpAny_bind (wpAny_update he1 ?_)
  have hD : (s.heap.push { cls := .type "dict", data := .dict #[] }).get? s.heap.objs.size = some { cls := .type "dict", data := .dict #[] } := Heap.get?_push_size _ rfl
  have ne : e ≠ s.heap.objs.size := Nat.ne_of_lt (Heap.lt_size he)
  have hD2 := (Heap.get?_update_other (s.heap.push { cls := .type "dict", data := .dict #[] }) (fun o => { cls := o.cls, dict := some s.heap.objs.size, data := o.data, slots := o.slots }) ne).trans hD
  have he2 := Heap.get?_update_self (fun o : Obj => { cls := o.cls, dict := some s.heap.objs.size, data := o.data, slots := o.slots }) he1 rfl
  have kp : ∀ b o, b ≠ e → s.heap.get? b = some o → ((s.heap.push { cls := .type "dict", data := .dict #[] }).update e fun o => { cls := o.cls, dict := some s.heap.objs.size, data := o.data, slots := o.slots }).get? b = some o := fun b o q r => by
    rw [Heap.get?_update_other _ _ (Ne.symm q)]; exact Heap.get?_push_of_some _ r
  have fre : ∀ b o, s.heap.get? b = some o → b ≠ s.heap.objs.size := fun b o q => Nat.ne_of_lt (Heap.lt_size q)
  dsimp only at he2 hD2 kp ⊢
  generalize (s.heap.push { cls := .type "dict", data := .dict #[] }).update e (fun o => { cls := o.cls, dict := some s.heap.objs.size, data := o.data, slots := o.slots }) = h2 at *
  generalize s.heap.objs.size = dx at *
  refine wpAny_pure (wpAny_bind (wpAny_pure (wpAny_bind ?_)))
  unfold nsSet
  refine wpAny_bind (wpAny_bind (wpAny_askSetting (wpAny_pure (wpAny_bind (wpAny_mkText (wpAny_bind (wpAny_loadPart hD2 ?_)))))))
  dsimp only
  rw [aRefKeyMayBeTheName_at, if_neg (by simp)]
  refine wpAny_updatePart hD2 ?_
  have hD3 := Heap.get?_update_self (Obj.putName name (PyData.keyHash (model prog w).w.params name) (.str name s.toks) v) hD2 (by rw [putName_dict (es := []) (n := 0)]; rfl)
  rw [show ({ cls := .type "dict", data := .dict #[] } : Obj) = dictOf [] 0 from rfl, putName_dict] at hD3
  refine wpAny_bind (wpAny_lookBehind hD3 (pastItsLine_dict (by rw [List.size_toArray, sizeLine_eq]; show 1 ≤ _; decide)) ?_)
  refine wpAny_pure (h _ _ dx (fun b o q r => ?_) ?_)
  · exact (Heap.get?_update_other _ _ (Ne.symm (fre b o r))).trans (kp b o q r)
  · exact (Heap.get?_update_other _ _ (Ne.symm ne)).trans he2
theorem ov_set {P : Params} {e : Addr} {vs : Array Value} {sl : Array (Option Value)} {name : Str} {v : Value} {Q : Unit → Shared → Prop} (hK : (kk P).In s.heap) (he : s.heap.get? e = some ⟨.ref 68, none, .fields vs, sl⟩) (ht : takerIn (kk P) 68 name = some none)
    (h : ∀ h' tk dx, (∀ b o, b ≠ e → s.heap.get? b = some o → h'.get? b = some o) → h'.get? e = some ⟨.ref 68, some dx, .fields vs, sl⟩ → Q () { s with heap := h', toks := tk }) : wpAny (model prog w) A (setAttr (.ref e) name v) Q E s := by
  have I : InstAt s.heap e ⟨.ref 68, none, .fields vs, sl⟩ 68 none := ⟨he, rfl, rfl, trivial⟩
  refine set_plain hK I (show findIn (kk P) (.ref 68) "__setattr__" = some (some (.builtin "object.__setattr__")) by kernel_rfl) ?_
  exact ov_osa (s := { s with toks := s.toks + 1 }) hK he ht fun h' tk dx a b => h h' tk dx a b
end

-- MR4
noncomputable def NoRec (o : Obj) : Prop := ∀ vs, o.data ≠ .fields vs
/-- what a called frame owes to the caller -/
structure Down (c c' : Cfg) (A : Around) (R : Value → Shared → Prop) (H : Led) : Prop where
  w : c'.w = c.w
  prog : c'.prog = c.prog
  h₀ : c'.h₀ = c.h₀
  gens : c'.gens = c.gens
  drawn : c'.drawn = c.drawn
  os : c'.os = c.os
  ar : c'.A = A.deeper c'.env
  fr : c'.env.frame = some c'.L
  own : ∃ oL es ep, ∃ μ : Str → Option Value, (c.L, oL) ∈ c'.FR ∧ oL.data = .dict es ep ∧ StrKeys es ∧ ∀ y, nsFind es y = μ y
  FR : ∀ p ∈ c.FR, p ∈ c'.FR
  new : (∀ p ∈ H, p.1 ≠ c'.L) ∧ c.h₀.get? c'.L = none
  er : ∀ e s', wpAny (model c.prog c.w) (A.deeper c'.env) (leaving c'.env e) (fun _ s'' => R e s'') (fun e' s'' => R e' s'') s' → c'.E e s'
section
variable {c : Cfg} {m : Mp} {H : Led} {sc : Scope}
/-- a call that may raise: what the callee's frame owes -/
theorem C_callX {name qual : Str} {params : Arguments} {body : List Stmt} {scope : Scope} {dV kV doc pm cdv ct : Value} {f : Addr} {args : Args} {binds : List (Str × Value)} {k : Nat} {R : Result → Shared → Prop} {s : Shared}
    (fc : Fn c sc) (I : Inv c m H s) (ho : (kk c.w.params).lookup f = some ⟨.type "function", none, .func (fnOf name qual params body scope dV kV doc pm none cdv ct), #[]⟩) (hcd : codeIn (kk c.w.params) cdv qual = true)
    {A : Around} (hA : A.handled = c.A.handled) (hdep : A.depth + 1 + k < recursionLimit) (hun : A.units + 3 + 4 * k < cLine)
    (hb : ∀ s : Shared, (kk c.w.params).In s.heap → BindsTo s (fnOf name qual params body scope dV kV doc pm none cdv ct) args binds) (hloc : ∀ y ∈ binds, scope.names.lookup y.1 = some .local)
    (hcell : ∀ x ∈ scope.names, x.2 ≠ .cell) (hco : scope.isCoroutine = false) (hgen : scope.isGenerator = false) (hk : scope.kind = .function)
    (h : ∀ c' : Cfg, Down c c' A (fun e s' => R (.error e) s') H → (∃ oL, (c.L, oL) ∈ c'.FR ∧ s.heap.get? c.L = some oL) → Fn c' scope → Room c' k →
      W c' (execs body c'.env) binds.reverse H (fun fl _ H' => ∀ s', Inv c m H' s' → R (.ok (.ret (retv fl))) s')) :
    codeAny (model c.prog c.w) A (.call (.ref f) args) R s := by
  have X := fc.ok.X.keeps I.F.keep
  refine codeAny_call_def (fd := fnOf name qual params body scope dV kV doc pm none cdv ct) (body := body) (binds := binds) (by omega) (X _ _ ho) rfl (fc.ok.lim.keeps I.F.keep) (codeRec_of X hcd) rfl (hb s X) hcell hloc (fun h₁ hns hk₁ => ?_) hco hgen hk
  obtain ⟨oL, es, ep, hL, hLd, hLk, hLf⟩ := I.F.ns
  let env' := callEnv (fnOf name qual params body scope dV kV doc pm none cdv ct) s.heap.objs.size f
  let c' : Cfg := { prog := c.prog, w := c.w, A := A.deeper env', E := fun e s' => wpAny (model c.prog c.w) (A.deeper env') (leaving env' e) (fun _ s'' => R (.error e) s'') (fun e' s'' => R (.error e') s'') s', h₀ := c.h₀, FR := (c.L, oL) :: c.FR, env := env', gens := c.gens, drawn := c.drawn, os := c.os }
  have hLs : c.L < s.heap.objs.size := Heap.lt_size hL
  have no0 : c.h₀.get? c.L = none := by
    cases q : c.h₀.get? c.L with
    | none => rfl
    | some o => exact absurd (Heap.lt_size q) (Nat.not_lt.mpr I.F.above)
  have no1 : c.h₀.get? s.heap.objs.size = none := by
    cases q : c.h₀.get? s.heap.objs.size with
    | none => rfl
    | some o => exact absurd (Heap.lt_size q) (Nat.not_lt.mpr (Nat.le_of_lt (Nat.lt_of_le_of_lt I.F.above hLs)))
  have I' : Inv c' binds.reverse H { s with heap := h₁, toks := s.toks + binds.length } := by
    refine ⟨I.gens, I.drawn, I.os, ⟨_, ⟨hns, fun b o e => hk₁ _ _ (I.F.keep b o e), Nat.le_of_lt (Nat.lt_of_le_of_lt I.F.above hLs)⟩, fun _ _ e => e⟩, ?_, ?_⟩
    · intro p hp
      have : p ∈ H ++ c.FR ∨ p = (c.L, oL) := by
        rcases List.mem_append.mp hp with q | q
        · exact .inl (List.mem_append_left _ q)
        · rcases List.mem_cons.mp q with q | q
          · exact .inr q
          · exact .inl (List.mem_append_right _ q)
      rcases this with q | rfl
      · exact ⟨hk₁ _ _ (I.N p q).1, Nat.ne_of_lt (I.lt p q), (I.N p q).2.2⟩
      · exact ⟨hk₁ _ _ hL, Nat.ne_of_lt hLs, no0⟩
    · intro p hp q hq
      rcases List.mem_cons.mp hq with rfl | hq
      · exact (I.N p (List.mem_append_left _ hp)).2.1
      · exact I.ap p hp q hq
  have back : ∀ m' H' s', Inv c' m' H' s' → Inv c m H' s' := by
    intro m' H' s' J
    have hLn : s'.heap.get? c.L = some oL := (J.N (c.L, oL) (List.mem_append_right _ (.head _))).1
    refine ⟨J.gens, J.drawn, J.os, ⟨_, ⟨⟨oL, es, ep, hLn, hLd, hLk, hLf⟩, J.F.keep, I.F.above⟩, I.kn⟩, ?_, fun p hp q hq => J.ap p hp q (.tail _ hq)⟩
    intro p hp
    have hp' : p ∈ H' ++ c'.FR := by
      rcases List.mem_append.mp hp with q | q
      · exact List.mem_append_left _ q
      · exact List.mem_append_right _ (.tail _ q)
    refine ⟨(J.N p hp').1, ?_, (J.N p hp').2.2⟩
    rcases List.mem_append.mp hp with q | q
    · exact J.ap p q (c.L, oL) (.head _)
    · exact (I.N p (List.mem_append_right _ q)).2.1
  have fc' : Fn c' scope := ⟨rfl, hk, rfl, rfl, fc.ok, by
    rcases fc.calm with q | ⟨e, o, q1, q2, q3⟩
    · exact .inl (hA.trans q)
    · exact .inr ⟨e, o, hA.trans q1, .tail _ q2, q3⟩⟩
  have hr : Room c' k := ⟨by show A.depth + 1 + k < _; exact hdep, by show A.units + 3 + 4 * k < _; exact hun⟩
  have hD : Down c c' A (fun e s' => R (.error e) s') H := ⟨rfl, rfl, rfl, rfl, rfl, rfl, rfl, rfl, ⟨oL, es, ep, _, .head _, hLd, hLk, hLf⟩, fun p hp => .tail _ hp, ⟨fun p hp => Nat.ne_of_lt (I.lt p (List.mem_append_left _ hp)), no1⟩, fun e s' h => h⟩
  have z := h c' hD ⟨oL, .head _, hL⟩ fc' hr
  refine wpAny_mono (z _ I') (fun fl s' ⟨m', H', J, p⟩ => ?_) fun _ _ e => e
  have := p s' (back m' H' s' J)
  cases fl <;> exact this
/-- the same, with the callee's run told state by state -/
theorem C_callW {name qual : Str} {params : Arguments} {body : List Stmt} {scope : Scope} {dV kV doc pm cdv ct : Value} {f : Addr} {args : Args} {binds : List (Str × Value)} {k : Nat} {R : Result → Shared → Prop} {s : Shared}
    (fc : Fn c sc) (I : Inv c m H s) (ho : (kk c.w.params).lookup f = some ⟨.type "function", none, .func (fnOf name qual params body scope dV kV doc pm none cdv ct), #[]⟩) (hcd : codeIn (kk c.w.params) cdv qual = true)
    {A : Around} (hA : A.handled = c.A.handled) (hdep : A.depth + 1 + k < recursionLimit) (hun : A.units + 3 + 4 * k < cLine)
    (hb : ∀ s : Shared, (kk c.w.params).In s.heap → BindsTo s (fnOf name qual params body scope dV kV doc pm none cdv ct) args binds) (hloc : ∀ y ∈ binds, scope.names.lookup y.1 = some .local)
    (hcell : ∀ x ∈ scope.names, x.2 ≠ .cell) (hco : scope.isCoroutine = false) (hgen : scope.isGenerator = false) (hk : scope.kind = .function)
    (h : ∀ c' : Cfg, Down c c' A (fun e s' => R (.error e) s') H → (∃ oL es ep, c'.FR = (c.L, oL) :: c.FR ∧ s.heap.get? c.L = some oL ∧ oL.data = .dict es ep ∧ StrKeys es ∧ (∀ y, nsFind es y = I.mu y) ∧ c'.E = fun e s' => wpAny (model c.prog c.w) (A.deeper c'.env) (leaving c'.env e) (fun _ s'' => R (.error e) s'') (fun e' s'' => R (.error e') s'') s') → Fn c' scope → Room c' k →
      ∀ s₁, Inv c' binds.reverse H s₁ → wpAny (model c.prog c.w) c'.A (execs body c'.env) (fun fl s' => R (.ok (.ret (retv fl))) s') c'.E s₁) :
    codeAny (model c.prog c.w) A (.call (.ref f) args) R s := by
  have X := fc.ok.X.keeps I.F.keep
  refine codeAny_call_def (fd := fnOf name qual params body scope dV kV doc pm none cdv ct) (body := body) (binds := binds) (by omega) (X _ _ ho) rfl (fc.ok.lim.keeps I.F.keep) (codeRec_of X hcd) rfl (hb s X) hcell hloc (fun h₁ hns hk₁ => ?_) hco hgen hk
  obtain ⟨oL, es, ep, hL, hLd, hLk, hLf⟩ := I.F.ns
  let env' := callEnv (fnOf name qual params body scope dV kV doc pm none cdv ct) s.heap.objs.size f
  let c' : Cfg := { prog := c.prog, w := c.w, A := A.deeper env', E := fun e s' => wpAny (model c.prog c.w) (A.deeper env') (leaving env' e) (fun _ s'' => R (.error e) s'') (fun e' s'' => R (.error e') s'') s', h₀ := c.h₀, FR := (c.L, oL) :: c.FR, env := env', gens := c.gens, drawn := c.drawn, os := c.os }
  have hLs : c.L < s.heap.objs.size := Heap.lt_size hL
  have no0 : c.h₀.get? c.L = none := by
    cases q : c.h₀.get? c.L with
    | none => rfl
    | some o => exact absurd (Heap.lt_size q) (Nat.not_lt.mpr I.F.above)
  have no1 : c.h₀.get? s.heap.objs.size = none := by
    cases q : c.h₀.get? s.heap.objs.size with
    | none => rfl
    | some o => exact absurd (Heap.lt_size q) (Nat.not_lt.mpr (Nat.le_of_lt (Nat.lt_of_le_of_lt I.F.above hLs)))
  have I' : Inv c' binds.reverse H { s with heap := h₁, toks := s.toks + binds.length } := by
    refine ⟨I.gens, I.drawn, I.os, ⟨_, ⟨hns, fun b o e => hk₁ _ _ (I.F.keep b o e), Nat.le_of_lt (Nat.lt_of_le_of_lt I.F.above hLs)⟩, fun _ _ e => e⟩, ?_, ?_⟩
    · intro p hp
      have : p ∈ H ++ c.FR ∨ p = (c.L, oL) := by
        rcases List.mem_append.mp hp with q | q
        · exact .inl (List.mem_append_left _ q)
        · rcases List.mem_cons.mp q with q | q
          · exact .inr q
          · exact .inl (List.mem_append_right _ q)
      rcases this with q | rfl
      · exact ⟨hk₁ _ _ (I.N p q).1, Nat.ne_of_lt (I.lt p q), (I.N p q).2.2⟩
      · exact ⟨hk₁ _ _ hL, Nat.ne_of_lt hLs, no0⟩
    · intro p hp q hq
      rcases List.mem_cons.mp hq with rfl | hq
      · exact (I.N p (List.mem_append_left _ hp)).2.1
      · exact I.ap p hp q hq
  have fc' : Fn c' scope := ⟨rfl, hk, rfl, rfl, fc.ok, by
    rcases fc.calm with q | ⟨e, o, q1, q2, q3⟩
    · exact .inl (hA.trans q)
    · exact .inr ⟨e, o, hA.trans q1, .tail _ q2, q3⟩⟩
  have hr : Room c' k := ⟨by show A.depth + 1 + k < _; exact hdep, by show A.units + 3 + 4 * k < _; exact hun⟩
  have hD : Down c c' A (fun e s' => R (.error e) s') H := ⟨rfl, rfl, rfl, rfl, rfl, rfl, rfl, rfl, ⟨oL, es, ep, _, .head _, hLd, hLk, hLf⟩, fun p hp => .tail _ hp, ⟨fun p hp => Nat.ne_of_lt (I.lt p (List.mem_append_left _ hp)), no1⟩, fun e s' h => h⟩
  refine wpAny_mono (h c' hD ⟨oL, es, ep, rfl, hL, hLd, hLk, hLf, rfl⟩ fc' hr _ I') (fun fl s' p => ?_) fun _ _ e => e
  cases fl <;> exact p
/-- a frame in which a raise goes out to a handler far below -/
structure Rz (c : Cfg) (B : Heap) (S H₀ : Led) (outer : List Env) : Prop where
  frames : c.A.frames = some (c.env :: outer)
  fr : c.env.frame = some c.L
  base : ∀ b o, B.get? b = some o → c.h₀.get? b = some o ∨ (b, o) ∈ H₀
  noL : B.get? c.L = none
  out : ∀ env ∈ outer, env.scope.kind ≠ .module ∧ ∃ L o, env.frame = some L ∧ B.get? L = none ∧ (L, o) ∈ c.FR ∧ NoRec o
  known : ∀ p ∈ S, p ∈ c.FR ∧ NoRec p.2
  first : ∀ e s', s'.gens = c.gens → s'.drawn = c.drawn → s'.os = c.os → Fly B S (c.env :: outer) e none s'.heap → (∀ oe vs, s'.heap.get? e = some oe → oe.data = .fields vs → vs[1]? = some .none) → c.E (.ref e) s'
  esc : ∀ e s', s'.gens = c.gens → s'.drawn = c.drawn → s'.os = c.os → Fly B S (c.env :: outer) e (some .none) s'.heap → c.E (.ref e) s'
theorem Rz.down {c' : Cfg} {A : Around} {R : Value → Shared → Prop} {B : Heap} {S H₀ : Led} {outer : List Env} (D : Down c c' A R H) (hfr : A.frames = some (c.env :: outer)) (hcf : c.env.frame = some c.L) (hck : c.env.scope.kind ≠ .module)
    (base : ∀ b o, B.get? b = some o → c.h₀.get? b = some o ∨ (b, o) ∈ H₀) (hH : ∀ p ∈ H₀, p ∈ H) (noL : B.get? c.L = none)
    (out : ∀ env ∈ outer, env.scope.kind ≠ .module ∧ ∃ L o, env.frame = some L ∧ B.get? L = none ∧ (L, o) ∈ c.FR ∧ NoRec o) (hS : ∀ p ∈ S, p ∈ c'.FR ∧ NoRec p.2)
    (pesc : ∀ e s', s'.gens = c.gens → s'.drawn = c.drawn → s'.os = c.os → Fly B S (c.env :: outer) e (some .none) s'.heap → R (.ref e) s') : Rz c' B S H₀ (c.env :: outer) where
  frames := by rw [D.ar]; exact Around.frames_deeper hfr
  fr := D.fr
  base := fun b o q => by rw [D.h₀]; exact base b o q
  noL := by
    cases q : B.get? c'.L with
    | none => rfl
    | some o =>
      rcases base _ _ q with r | r
      · rw [D.new.2] at r; cases r
      · exact absurd rfl (D.new.1 _ (hH _ r))
  out := fun env he => by
    rcases List.mem_cons.mp he with rfl | he
    · obtain ⟨oL, es, ep, μ, a, b, _⟩ := D.own
      exact ⟨hck, c.L, oL, hcf, noL, a, fun vs q => by rw [b] at q; cases q⟩
    · obtain ⟨a, L, o, b, d, e, g⟩ := out env he
      exact ⟨a, L, o, b, d, D.FR _ e, g⟩
  known := hS
  first := fun e s' g1 g2 g3 F hn => D.er _ _ (by
    have hfr' : (A.deeper c'.env).frames = some (c'.env :: c.env :: outer) := Around.frames_deeper hfr
    exact F.leave_first hfr' D.fr hn fun h' F' => pesc e _ (g1.trans D.gens) (g2.trans D.drawn) (g3.trans D.os) F')
  esc := fun e s' g1 g2 g3 F => D.er _ _ (by
    have hfr' : (A.deeper c'.env).frames = some (c'.env :: c.env :: outer) := Around.frames_deeper hfr
    exact F.leave_next hfr' D.fr fun h' F' => pesc e _ (g1.trans D.gens) (g2.trans D.drawn) (g3.trans D.os) F')
theorem Rz.push {c' : Cfg} {A : Around} {R : Value → Shared → Prop} {B : Heap} {S H₀ : Led} {outer : List Env} (z : Rz c B S H₀ outer) (f : Fn c sc) (D : Down c c' A R H) (hA : A.frames = c.A.frames) (hH : ∀ p ∈ H₀, p ∈ H) (hR : ∀ e s, c.E e s → R e s) : Rz c' B S H₀ (c.env :: outer) :=
  Rz.down D (hA.trans z.frames) z.fr (by rw [f.scope, f.kind]; decide) z.base hH z.noL z.out (fun p hp => ⟨D.FR _ (z.known p hp).1, (z.known p hp).2⟩) fun e s' g1 g2 g3 F => hR _ _ (z.esc e s' g1 g2 g3 F)
end

-- MR5
section
variable {c : Cfg} {m : Mp} {H : Led} {sc : Scope} {s : Shared} {B : Heap} {S H₀ : Led} {outer : List Env}
theorem Inv.add (I : Inv c m H s) {e : Addr} {oe : Obj} {h' : Heap} {tk : Nat} (hk : ∀ b o, s.heap.get? b = some o → h'.get? b = some o) (hn : s.heap.get? e = none) (he : h'.get? e = some oe) : Inv c m ((e, oe) :: H) { s with heap := h', toks := tk } := by
  have J := I.keeps (tk := tk) hk
  obtain ⟨oL, es, ep, hL, _⟩ := I.F.ns
  refine ⟨J.gens, J.drawn, J.os, J.Fx, fun p hp => ?_, fun p hp q hq => ?_⟩
  · rcases List.mem_cons.mp hp with rfl | hp
    · refine ⟨he, (fun z => by dsimp only at z; rw [z, hL] at hn; cases hn), ?_⟩
      cases q : c.h₀.get? e with
      | none => rfl
      | some o => have := I.F.keep _ _ q; rw [hn] at this; cases this
    · exact J.N p hp
  · rcases List.mem_cons.mp hp with rfl | hp
    · intro z
      have := (I.N q (List.mem_append_right _ hq)).1
      rw [← z] at this
      dsimp only at this
      rw [hn] at this; cases this
    · exact J.ap p hp q hq
theorem P_ov {e : Addr} {vs : Array Value} {sl : Array (Option Value)} {name : Str} {v : Value} {G : Led} {P : Unit → Mp → Led → Prop} (f : Fn c sc) (fr : ∀ p ∈ G, p.1 ≠ e) (ht : takerIn (kk c.w.params) 68 name = some none)
    (h : ∀ dx, P () m ((e, ⟨.ref 68, some dx, .fields vs, sl⟩) :: G)) : W c (setAttr (.ref e) name v) m ((e, ⟨.ref 68, none, .fields vs, sl⟩) :: G) P := fun s I => by
  refine ov_set (f.ok.X.keeps I.F.keep) (I.at_ (.head _)) ht fun h' tk dx hk he => ⟨_, _, ?_, h dx⟩
  have z := I.N (e, ⟨.ref 68, none, .fields vs, sl⟩) (.head _)
  refine I.upto ⟨?_, fun b o q => hk b o (fun w => by rw [w] at q; have := z.2.2; dsimp only at this; rw [this] at q; cases q) (I.F.keep b o q), I.F.above⟩ I.kn (fun p hp => ?_) fun p hp q hq => ?_
  · obtain ⟨oL, es, ep, hL, r⟩ := I.F.ns
    exact ⟨oL, es, ep, hk _ _ (Ne.symm z.2.1) hL, r⟩
  · rcases List.mem_append.mp hp with w | w
    · rcases List.mem_cons.mp w with rfl | w
      · exact ⟨he, z.2.1, z.2.2⟩
      · have y := I.N p (List.mem_append_left _ (.tail _ w))
        exact ⟨hk _ _ (fr p w) y.1, y.2⟩
    · have y := I.N p (List.mem_append_right _ w)
      exact ⟨hk _ _ (Ne.symm (I.ap (e, _) (.head _) p w)) y.1, y.2⟩
  · rcases List.mem_cons.mp hp with rfl | hp
    · exact I.ap (e, _) (.head _) q hq
    · exact I.ap p (.tail _ hp) q hq
noncomputable abbrev ovVs (t : Addr) : Array Value := #[.ref t, .none, .none, .none, .bool false, .none]
noncomputable abbrev fd_ov : FuncData := fnOf (Str.ofString "__init__") (Str.ofString "PageError.__init__") (parOf (mAt 4 0)) (bodOf (mAt 4 0)) (scoOf (mAt 4 0)) (.ref 33) (.none) (.none) (.str (Str.ofString "gluepage.errors") 211) none (.ref 39) (.none)
theorem bd_ov {P : Params} {s : Shared} {x v : Value} (X : (kk P).In s.heap) : BindsTo s fd_ov ⟨[x, v], []⟩ [(Str.ofString "self", x), (Str.ofString "reason", v)] :=
  binds_K (o := k33 P) X rfl (by kernel_rfl) rfl rfl (by kernel_rfl)
theorem W_ov {v : Value} {P : Value → Mp → Led → Prop} (f : Fn c sc) (r : Room c 2) (h : ∀ e dx t, (∀ p ∈ H, p.1 ≠ e) → P (.ref e) m ((e, ⟨.ref 68, some dx, .fields (ovVs t), #[]⟩) :: H)) : W c (call (.ref 68) [v]) m H P := fun s I => by
  obtain ⟨hp, g, d, tk, os⟩ := s
  refine ov_call (P := c.w.params) (f.ok.X.keeps I.F.keep) (by rw [sizeLine_eq]; show 1 ≤ _; decide) fun h' e hm => ?_
  obtain ⟨t, he, htn, ht⟩ := hm.there
  have I' : Inv c m ((e, ⟨.ref 68, none, .fields (ovVs t), #[]⟩) :: H) ⟨h', g, d, tk, os⟩ := I.add hm.keeps hm.new he
  have fr : ∀ p ∈ H, p.1 ≠ e := fun p hq z => by
    have := I.at_ hq
    rw [z] at this
    have n := hm.new
    dsimp only at this
    rw [this] at n; cases n
  refine wpAny_call (C_call (k := 0) (name := Str.ofString "__init__") (qual := Str.ofString "PageError.__init__") (params := parOf (mAt 4 0)) (body := bodOf (mAt 4 0)) (scope := scoOf (mAt 4 0)) (dV := .ref 33) (kV := .none) (doc := .none) (pm := .str (Str.ofString "gluepage.errors") 211) (cdv := .ref 39) (ct := .none)
    (binds := [(Str.ofString "self", .ref e), (Str.ofString "reason", v)]) f I' (by kernel_rfl) (by kernel_rfl) rfl ?_ ?_ (fun s X => bd_ov X) (locs (by kernel_rfl)) (by decide +kernel) (by kernel_rfl) (by kernel_rfl) (by kernel_rfl) fun c' _ hw _ _ _ f' r' _ => ?_)
  · show c.A.depth + _ + 1 + 0 < _
    rw [wt_tc]; have := r.1; omega
  · show c.A.units + _ + 3 + 4 * 0 < _
    rw [un_tc]; have := r.2; omega
  show W c' (execs (_ :: _) _) _ _ _
  refine S_seq (S_assignA ?_ (by with_unfolding_all rfl))
  refine W_loc f'.scope (by kernel_rfl) (by kernel_rfl) (by rfl) ?_ (by decide +kernel)
  refine W_loc f'.scope (by kernel_rfl) (by kernel_rfl) (by rfl) ?_ (by decide +kernel)
  refine P_ov f' fr (by kernel_rfl) fun dx => ?_
  refine Seq_next (S_nil ?_)
  intro s' J
  exact ⟨rfl, _, _, J, h e dx t fr⟩
theorem Rz.fly {e : Addr} {oe : Obj} {vs : Array Value} (z : Rz c B S H₀ outer) (f : Fn c sc) (I : Inv c m H s) (hH : ∀ p ∈ H₀, p ∈ H) (he : (e, oe) ∈ H) (ne : ∀ p ∈ H₀, p.1 ≠ e) (hc : oe.cls = .ref 68) (hd : oe.data = .fields vs) (h1 : 1 < vs.size) (h2 : vs[2]? = some .none) :
    Fly B S (c.env :: outer) e none s.heap where
  stays := fun b o q => by
    rcases z.base b o q with r | r
    · exact I.F.keep _ _ r
    · exact I.at_ (hH _ r)
  fresh := by
    cases q : B.get? e with
    | none => rfl
    | some o =>
      rcases z.base _ _ q with r | r
      · have := (I.N _ (List.mem_append_left _ he)).2.2
        dsimp only at this
        rw [this] at r; cases r
      · exact absurd rfl (ne _ r)
  frames := by
    obtain ⟨oL, es, ep, hL, hLd, _⟩ := I.F.ns
    refine ⟨by rw [f.scope, f.kind]; decide, ⟨c.L, oL, z.fr, z.noL, hL, fun vs q => by rw [hLd] at q; cases q⟩, ?_⟩
    have go : ∀ l : List Env, (∀ env ∈ l, env.scope.kind ≠ .module ∧ ∃ L o, env.frame = some L ∧ B.get? L = none ∧ (L, o) ∈ c.FR ∧ NoRec o) → s.heap.FunFrames B l := by
      intro l
      induction l with
      | nil => intro _; trivial
      | cons a l ih =>
        intro k
        obtain ⟨k1, L, o, k2, k3, k4, k5⟩ := k a (.head _)
        exact ⟨k1, ⟨L, o, k2, k3, (I.N _ (List.mem_append_right _ k4)).1, k5⟩, ih fun env he => k env (.tail _ he)⟩
    exact go outer z.out
  slots := fun p hp => ⟨(z.known p hp).2, p.2.slots, (I.N p (List.mem_append_right _ (z.known p hp).1)).1⟩
  exc := ⟨oe, vs, I.at_ he, hc, hd, h1, h2, fun _ q => nomatch q⟩
theorem S_raise {x : Expr} {pos : Pos} {P : Flow → Mp → Led → Prop} (z : Rz c B S H₀ outer) (f : Fn c sc) (hh : Hn c)
    (h : W c (eval x c.env) m H fun v _ H' => ∃ e oe vs, v = .ref e ∧ (e, oe) ∈ H' ∧ (∀ p ∈ H₀, p ∈ H') ∧ (∀ p ∈ H₀, p.1 ≠ e) ∧ oe.cls = .ref 68 ∧ oe.data = .fields vs ∧ 1 < vs.size ∧ vs[2]? = some .none ∧ vs[1]? = some .none) :
    W c (exec (.Raise (some x) none pos) c.env) m H P := fun s I => by
  rw [arm_exec_Raise]
  refine wpAny_bind (wpAny_standAt (ov_raise hh (wpAny_bind (wpAny_mono (h s I) (fun v s₁ ⟨m', H', J, e, oe, vs, ev, he, hH, ne, hc, hd, h1, h2, h3⟩ => wpAny_bind (wpAny_standAt (wpAny_pure ?_))) fun _ _ x => x))))
  have X := f.ok.X.keeps J.F.keep
  refine ⟨e, oe, ev, X 68 _ (show (kk c.w.params).lookup 68 = some (k68 c.w.params) by kernel_rfl), J.at_ he, hc, ⟨vs, hd, h3⟩, ?_⟩
  exact z.first e s₁ J.gens J.drawn J.os (z.fly f J hH he ne hc hd h1 h2) fun oe' vs' q1 q2 => by
    rw [J.at_ he] at q1
    cases q1
    rw [hd] at q2
    cases q2
    exact h3
end

-- MR6
section
variable {c : Cfg} {m : Mp} {H : Led} {sc : Scope} {B : Heap} {S H₀ : Led} {outer : List Env} {P : Value → Mp → Led → Prop}
theorem W_callR {name qual : Str} {params : Arguments} {body : List Stmt} {scope : Scope} {dV kV doc pm cdv ct : Value} {f : Addr} {pos : List Value} {binds : List (Str × Value)} {k : Nat}
    (z : Rz c B S H₀ outer) (hH : ∀ p ∈ H₀, p ∈ H) (fc : Fn c sc) (room : Room c (k + 1)) (ho : (kk c.w.params).lookup f = some ⟨.type "function", none, .func (fnOf name qual params body scope dV kV doc pm none cdv ct), #[]⟩) (hcd : codeIn (kk c.w.params) cdv qual = true)
    (hb : ∀ s : Shared, (kk c.w.params).In s.heap → BindsTo s (fnOf name qual params body scope dV kV doc pm none cdv ct) ⟨pos, []⟩ binds) (hloc : ∀ y ∈ binds, scope.names.lookup y.1 = some .local)
    (hcell : ∀ x ∈ scope.names, x.2 ≠ .cell) (hco : scope.isCoroutine = false) (hgen : scope.isGenerator = false) (hk : scope.kind = .function)
    (h : ∀ c' : Cfg, c'.w = c.w → Fn c' scope → Room c' k → (Hn c → Hn c') → Rz c' B S H₀ (c.env :: outer) → W c' (execs body c'.env) binds.reverse H (fun fl _ H' => P (retv fl) m H')) : W c (call (.ref f) pos) m H P := fun s I => by
  refine wpAny_call (C_callX fc I ho hcd rfl (k := k) (by have := room.1; omega) (by have := room.2; omega) hb hloc hcell hco hgen hk fun c' D _ fc' hr => ?_)
  exact W_mono (h c' D.w fc' hr (fun e => by show c'.A.handled = none; rw [D.ar]; exact e) (z.push fc D rfl hH fun e s h => h)) fun fl _ H' p s' J => ⟨m, H', J, p⟩
theorem W_makeR {name qual : Str} {params : Arguments} {body : List Stmt} {scope : Scope} {dV kV doc pm cdv ct : Value} {fI C : Addr} {rest : List Value} {binds : Addr → List (Str × Value)} {k : Nat}
    (z : Rz c B S H₀ outer) (hH : ∀ p ∈ H₀, p ∈ H) (fc : Fn c sc) (room : Room c (k + 2)) (hm : makesIn (kk c.w.params) C = true) (hi : findIn (kk c.w.params) (.ref C) "__init__" = some (some (.ref fI))) (hf : typeIn (kk c.w.params) (.ref fI) = some (.type "function"))
    (ho : (kk c.w.params).lookup fI = some ⟨.type "function", none, .func (fnOf name qual params body scope dV kV doc pm none cdv ct), #[]⟩) (hcd : codeIn (kk c.w.params) cdv qual = true)
    (hb : ∀ x, ∀ s : Shared, (kk c.w.params).In s.heap → BindsTo s (fnOf name qual params body scope dV kV doc pm none cdv ct) ⟨.ref x :: rest, []⟩ (binds x)) (hloc : ∀ x, ∀ y ∈ binds x, scope.names.lookup y.1 = some .local)
    (hcell : ∀ x ∈ scope.names, x.2 ≠ .cell) (hco : scope.isCoroutine = false) (hgen : scope.isGenerator = false) (hk : scope.kind = .function)
    (h : ∀ x dx, (∀ p ∈ H, p.1 ≠ x) → (∀ p ∈ H, p.1 ≠ dx) → x ≠ dx → ∀ c' : Cfg, c'.w = c.w → (Hn c → Hn c') → Fn c' scope → Room c' k → Rz c' B S H₀ (c.env :: outer) → W c' (execs body c'.env) (binds x).reverse ((dx, emptyDict) :: (x, instObj C dx) :: H) (fun fl _ H' => retv fl = .none ∧ P (.ref x) m H')) :
    W c (call (.ref C) rest) m H P := fun s I => by
  refine wpAny_call (make_K I.F I.N (fc.ok.X.keeps I.F.keep) hm hi hf fun x dx h' F' N' l1 l2 => ?_)
  have I' : Inv c m ((dx, emptyDict) :: (x, instObj C dx) :: H) { s with heap := h' } := by
    refine ⟨I.gens, I.drawn, I.os, ⟨_, F', I.kn⟩, fun p hp => N' p (by
      rcases List.mem_cons.mp hp with rfl | hp
      · exact .tail _ (.head _)
      · rcases List.mem_cons.mp hp with rfl | hp
        · exact .head _
        · exact .tail _ (.tail _ hp)), fun p hp q hq => ?_⟩
    have lq := l1 q (List.mem_append_right _ hq)
    rcases List.mem_cons.mp hp with rfl | hp
    · exact Nat.ne_of_gt lq
    · rcases List.mem_cons.mp hp with rfl | hp
      · exact Nat.ne_of_gt (Nat.lt_trans lq l2)
      · exact I.ap p hp q hq
  refine C_callX fc I' ho hcd (A := c.A.under (.builtin "type.__call__" ⟨.ref C :: rest, []⟩)) (k := k) rfl ?_ ?_ (hb x) (hloc x) hcell hco hgen hk fun c' D _ fc' hr => ?_
  · show c.A.depth + _ + 1 + k < _
    rw [wt_tc]; have := room.1; omega
  · show c.A.units + _ + 3 + 4 * k < _
    rw [un_tc]; have := room.2; omega
  · refine W_mono (h x dx (fun p hp => Nat.ne_of_lt (Nat.lt_trans (l1 p (List.mem_append_left _ hp)) l2)) (fun p hp => Nat.ne_of_lt (l1 p (List.mem_append_left _ hp))) (Nat.ne_of_gt l2) c' D.w (fun e => by show c'.A.handled = none; rw [D.ar]; exact e) fc' hr
      (z.push fc D rfl (fun p hp => .tail _ (.tail _ (hH p hp))) fun e s h => h)) fun fl m' H' p s' J => ?_
    exact ⟨p.1, m, H', J, p.2⟩
end
set_option maxHeartbeats 4000000
section
variable {c : Cfg} {sc : Scope} {m : Mp} {H : Led} {P : Value → Mp → Led → Prop} {B : Heap} {S H₀ : Led} {outer : List Env}
theorem check_dimen_r {v : Int} {t : Tok} (z : Rz c B S H₀ outer) (hH : ∀ p ∈ H₀, p ∈ H) (f : Fn c sc) (r : Room c 3) (hh : Hn c) (hv : 1073741823 < v) : W c (call (.ref 114) [.int v t]) m H P := by
  refine W_callR (k := 2) z hH f r (by kernel_rfl) (by kernel_rfl) (fun s _ => (BindsTo.of_eq (by kernel_rfl) : BindsTo s fd_check_dimen ⟨[.int v t], []⟩ [(Str.ofString "value", .int v t)])) (locs (by kernel_rfl)) (by decide +kernel) (by kernel_rfl) (by kernel_rfl) (by kernel_rfl) ?_
  intro c' hw f' r' n' z'
  show W c' (execs (_ :: _) _) _ _ _
  walk_at "go"
  refine check_whole_c f' (r'.le (by decide)) ?_
  walk_at "go"
  refine S_raise z' f' (n' hh) ?_
  walk_at "go"
  refine W_ov f' (r'.le (by decide)) fun e dx t fr => ?_
  exact ⟨e, _, _, rfl, .head _, fun p hp => .tail _ (hH p hp), fun p hp => fr p (hH p hp), rfl, rfl, by show 1 < 6; decide, rfl, rfl⟩
theorem mk_Glue_r {w st sh : Int} {t1 t2 t3 t4 t5 : Tok} (z : Rz c B S H₀ outer) (hH : ∀ p ∈ H₀, p ∈ H) (f : Fn c sc) (r : Room c 5) (hh : Hn c) (hv : 1073741823 < w) :
    W c (call (.ref 238) [.int w t1, .int st t2, .int 0 t3, .int sh t4, .int 0 t5]) m H P := by
  refine W_makeR (fI := 185) (k := 3) (binds := fun x => [(Str.ofString "self", .ref x), (Str.ofString "width", .int w t1), (Str.ofString "stretch", .int st t2), (Str.ofString "stretch_order", .int 0 t3), (Str.ofString "shrink", .int sh t4), (Str.ofString "shrink_order", .int 0 t5)]) z hH f r (by kernel_rfl) (by kernel_rfl) (by kernel_rfl) (by kernel_rfl) (by kernel_rfl) (fun x s X => bd_Glue5 X) (fun x => locs (by kernel_rfl)) (by decide +kernel) (by kernel_rfl) (by kernel_rfl) (by kernel_rfl) ?_
  intro x dx f1 f2 f3 c' hw n' f' r' z'
  show W c' (execs (_ :: _) _) _ _ _
  walk_at "go"
  refine is_whole_c f' (r'.le (by decide)) ?_
  walk_at "go"
  refine is_whole_c f' (r'.le (by decide)) ?_
  walk_at "go"
  exact check_dimen_r z' (fun p hp => .tail _ (.tail _ (hH p hp))) f' r' (n' hh) hv
theorem append_box_rb {D : Addr} {v : Value} {hgt dep prev : Int} {tp : Tok} {sp : Addr} {s : Sp} {P' : Flow → Mp → Led → Prop} (z : Rz c B S H₀ outer) (hH : ∀ p ∈ H₀, p ∈ H) (f' : Fn c (scoOf (stAt 55))) (r' : Room c 5) (hh' : Hn c)
    (hv : NdAt H v (.box hgt dep)) (hs : SpAt H sp s) (h1 : -65536000 < prev) (h2 : ¬ s.bw - prev - hgt < s.lim) (h3 : 1073741823 < s.bw - prev - hgt) :
    W c (execs (bodOf (stAt 55)) c.env) [(Str.ofString "previous", .int prev tp), (Str.ofString "spacing", .ref sp), (Str.ofString "box", v), (Str.ofString "items", .ref D)] H P' := by
  obtain ⟨osp, bg, cg, tl, hsp, hosp, ⟨_, bd, bo, e1, b1, b2, u1, u2, u3, u4, u5, b3⟩, hcg⟩ := id hs
  cases e1
  obtain ⟨it, oi, l, ol, t1, t2, t3, t4, t5, t6, t7, t8, t9, ⟨xb, db, ob, rfl, x1, x2, xd⟩, _⟩ := id hv
  show W c (execs (_ :: _) _) _ _ _
  walk_at "goo"
  refine S_assignT ?_ (by with_unfolding_all rfl) (by rw [sw_scope f'.scope]; kernel_rfl)
  walk_at "goo"
  refine A_tup hh' hsp hosp rfl ?_
  show W _ (assignInOrder [assign (.Name _ _) c.env, assign (.Name _ _) c.env, assign (.Name _ _) c.env] _) _ _ _
  walk_at "goo"
  exact mk_Glue_r z hH f' r' hh' h3
theorem append_box_r {D : Addr} {v : Value} {hgt dep prev : Int} {tp : Tok} {sp : Addr} {s : Sp} {FS : Led} (f : Fn c sc) (r : Room c 6) (hh : Hn c) (frames : c.A.frames = some (c.env :: outer)) (hcf : c.env.frame = some c.L)
    (base : ∀ b o, B.get? b = some o → c.h₀.get? b = some o ∨ (b, o) ∈ H₀) (hH : ∀ p ∈ H₀, p ∈ H) (noL : B.get? c.L = none)
    (out : ∀ env ∈ outer, env.scope.kind ≠ .module ∧ ∃ L o, env.frame = some L ∧ B.get? L = none ∧ (L, o) ∈ c.FR ∧ NoRec o) (hS : ∀ p ∈ FS, p ∈ c.FR ∧ NoRec p.2)
    (pesc : ∀ e s₀ s' oL, Inv c m H s₀ → s₀.heap.get? c.L = some oL → s'.gens = c.gens → s'.drawn = c.drawn → s'.os = c.os → Fly B ((c.L, oL) :: FS) (c.env :: outer) e (some .none) s'.heap → c.E (.ref e) s')
    (hv : NdAt H v (.box hgt dep)) (hs : SpAt H sp s) (h1 : -65536000 < prev) (h2 : ¬ s.bw - prev - hgt < s.lim) (h3 : 1073741823 < s.bw - prev - hgt) :
    W c (call (.ref 502) [.ref D, v, .ref sp, .int prev tp]) m H P := fun st I => by
  refine wpAny_call (C_callX (k := 5) (binds := [(Str.ofString "items", .ref D), (Str.ofString "box", v), (Str.ofString "spacing", .ref sp), (Str.ofString "previous", .int prev tp)]) f I (by kernel_rfl) (by kernel_rfl) rfl (by have := r.1; omega) (by have := r.2; omega)
    (fun s _ => (BindsTo.of_eq (by kernel_rfl) : BindsTo s fd_append_box ⟨[.ref D, v, .ref sp, .int prev tp], []⟩ [(Str.ofString "items", .ref D), (Str.ofString "box", v), (Str.ofString "spacing", .ref sp), (Str.ofString "previous", .int prev tp)])) (locs (by kernel_rfl)) (by decide +kernel) (by kernel_rfl) (by kernel_rfl) (by kernel_rfl) fun c' Dn hoL f' r' => ?_)
  obtain ⟨oL, hoL, hget⟩ := hoL
  have rec0 : NoRec oL := by
    obtain ⟨o2, es, ep, q1, q2, _⟩ := I.F.ns
    rw [hget] at q1
    cases q1
    intro vs q
    rw [q2] at q
    cases q
  have z : Rz c' B ((c.L, oL) :: FS) H₀ (c.env :: outer) := Rz.down Dn frames hcf (by rw [f.scope, f.kind]; decide) base hH noL out (fun p hp => by
    rcases List.mem_cons.mp hp with rfl | hp
    · exact ⟨hoL, rec0⟩
    · exact ⟨Dn.FR _ (hS p hp).1, (hS p hp).2⟩) fun e s' g1 g2 g3 F => pesc e st s' oL I hget g1 g2 g3 F
  exact append_box_rb z hH f' r' (by show c'.A.handled = none; rw [Dn.ar]; exact hh) hv hs h1 h2 h3
end

-- ML6
/-- a heap of the base's objects and the ledger's alone -/
theorem base_heap {c : Cfg} {m : Mp} {H : Led} {s : Shared} (I : Inv c m H s) : ∃ B : Heap, (∀ b o, B.get? b = some o → c.h₀.get? b = some o ∨ (b, o) ∈ H) ∧ (∀ p ∈ H, B.get? p.1 = some p.2) ∧ ∀ b o, c.h₀.get? b = some o → B.get? b = some o := by
  let as := (List.range s.heap.objs.size).filter fun b => (c.h₀.get? b).isNone && !(H.any fun p => p.1 == b)
  refine ⟨hideAll s.heap as, fun b o q => ?_, fun p hp => ?_, fun b o q => ?_⟩
  · have h1 := of_hideAll _ q
    have h2 : b ∉ as := fun w => by rw [hideAll_none as w] at q; cases q
    have h3 : ¬ ((c.h₀.get? b).isNone = true ∧ (!(H.any fun p => p.1 == b)) = true) := fun w => h2 (List.mem_filter.mpr ⟨List.mem_range.mpr (Heap.lt_size h1), by rw [w.1, w.2]; rfl⟩)
    cases e : c.h₀.get? b with
    | some o' => have := I.F.keep _ _ e; rw [h1] at this; cases this; exact .inl rfl
    | none =>
      right
      have h4 : (H.any fun p => p.1 == b) = true := by
        cases w : (H.any fun p => p.1 == b) with
        | true => rfl
        | false => exact absurd ⟨by rw [e]; rfl, by rw [w]; rfl⟩ h3
      obtain ⟨p, hp, hpb⟩ := List.any_eq_true.mp h4
      have hpb' : p.1 = b := by simpa using hpb
      have := I.at_ (a := p.1) (o := p.2) hp
      rw [hpb', h1] at this
      cases this
      rw [← hpb']
      exact hp
  · refine hideAll_get _ (I.at_ (a := p.1) (o := p.2) hp) fun w => ?_
    have := (List.mem_filter.mp w).2
    have h4 : (H.any fun q => q.1 == p.1) = true := List.any_eq_true.mpr ⟨p, hp, by simp⟩
    rw [h4] at this
    simp at this
  · refine hideAll_get _ (I.F.keep _ _ q) fun w => ?_
    have := (List.mem_filter.mp w).2
    rw [q] at this
    simp at this
/-- where the exception has been caught -/
theorem Fly.inv {c : Cfg} {m : Mp} {H H₂ : Led} {s₀ s : Shared} {B : Heap} {oL oP : Obj} {l : List Env} {e Lp : Addr} {fl : Option Value} {E : Value → Shared → Prop} {A : Around} (I : Inv c m H₂ s₀) (hL : s₀.heap.get? c.L = some oL) (hFR : c.FR = [(Lp, oP)]) (hH : ∀ p ∈ H, p ∈ H₂)
    (conv : ∀ p ∈ H, B.get? p.1 = some p.2) (conv0 : ∀ b o, c.h₀.get? b = some o → B.get? b = some o) (F : Fly B [(c.L, oL), (Lp, oP)] l e fl s.heap) (g1 : s.gens = c.gens) (g2 : s.drawn = c.drawn) (g3 : s.os = c.os) :
    ∃ sl oe, Exc0 oe ∧ Inv { c with FR := [(Lp, { oP with slots := sl }), (e, oe)], E := E, A := A } m H s := by
  obtain ⟨oe, vs, he, hc, hd, h1, h2, h3⟩ := F.exc
  obtain ⟨nr1, sl1, s1⟩ := F.slots (c.L, oL) (.head _)
  obtain ⟨nr2, sl2, s2⟩ := F.slots (Lp, oP) (.tail _ (.head _))
  have nP := I.N (Lp, oP) (List.mem_append_right _ (by rw [hFR]; exact .head _))
  refine ⟨sl2, oe, ⟨vs, hd, h2⟩, g1, g2, g3, ?_, ?_, ?_⟩
  · obtain ⟨o2, es, ep, q1, q2, q3, q4⟩ := I.F.ns
    rw [hL] at q1
    cases q1
    exact ⟨I.mu, ⟨⟨_, es, ep, s1, q2, q3, q4⟩, fun b o q => F.stays _ _ (conv0 _ _ q), I.F.above⟩, I.kn⟩
  · intro p hp
    rcases List.mem_append.mp hp with w | w
    · have y := I.N p (List.mem_append_left _ (hH p w))
      exact ⟨F.stays _ _ (conv p w), y.2⟩
    · rcases List.mem_cons.mp w with rfl | w
      · exact ⟨s2, nP.2⟩
      · obtain rfl := List.mem_singleton.mp w
        refine ⟨he, fun z => ?_, ?_⟩
        · have z' : e = c.L := z
          rw [z', s1] at he
          cases he
          exact nr1 vs hd
        · cases q : c.h₀.get? e with
          | none => rfl
          | some o => have := conv0 _ _ q; rw [F.fresh] at this; cases this
  · intro p hp q hq
    rcases List.mem_cons.mp hq with rfl | hq
    · exact I.ap p (hH p hp) (Lp, oP) (by rw [hFR]; exact .head _)
    · obtain rfl := List.mem_singleton.mp hq
      intro z
      have := conv p hp
      rw [show p.1 = e from z, F.fresh] at this
      cases this
noncomputable def tryB : List Stmt := match bodOf (stAt 78) with
  | _ :: .Try b _ _ _ _ :: _ => b
  | _ => []
noncomputable def handB : List Stmt := match bodOf (stAt 78) with
  | _ :: .Try _ (.ExceptHandler _ _ b _ :: _) _ _ _ :: _ => b
  | _ => []
theorem W_useE {α : Type} {c : Cfg} {m : Mp} {H : Led} {s : Shared} {t : Sem α} {E' : Value → Shared → Prop} {P : α → Mp → Led → Prop} {Q : α → Shared → Prop} (I : Inv c m H s) (h : ∀ c₁ : Cfg, c₁ = { c with E := E' } → W c₁ t m H P) (k : ∀ v s' m' H', Inv c m' H' s' → P v m' H' → Q v s') :
    wpAny (model c.prog c.w) c.A t Q E' s :=
  wpAny_mono (h _ rfl s ⟨I.gens, I.drawn, I.os, I.Fx, I.N, I.ap⟩) (fun v s' ⟨m', H', J, p⟩ => k v s' m' H' ⟨J.gens, J.drawn, J.os, J.Fx, J.N, J.ap⟩ p) fun _ _ e => e
set_option maxHeartbeats 4000000
section
variable {c : Cfg} {sc : Scope} {m : Mp} {H : Led} {P : Value → Mp → Led → Prop}
theorem refused_try {C : Addr} {b : Addr} {ob oP : Obj} {vs : List Value} {sp Lp : Addr} {s : Sp} {envP : Env} {B : Heap} {G : Led} (f : Fn c (scoOf (stAt 78))) (r : Room c 7) (hh : Hn c) (frames : c.A.frames = some [c.env, envP]) (hcf : c.env.frame = some c.L) (hkP : envP.scope.kind ≠ .module) (hfP : envP.frame = some Lp) (hFR : c.FR = [(Lp, oP)]) (nr : NoRec oP)
    (base : ∀ b' o, B.get? b' = some o → c.h₀.get? b' = some o ∨ (b', o) ∈ (b, ob) :: G) (noL : B.get? c.L = none) (noP : B.get? Lp = none) (hob : PlL ob vs) (hfb : ∀ p ∈ G, p.1 ≠ b) (hs : SpAt G sp s) (hso : s.ok)
    (pesc : ∀ e s₀ s' H₂ oL, Inv c [(Str.ofString "held", .ref b), (Str.ofString "spacing", .ref sp), (Str.ofString "column", .ref C)] H₂ s₀ → (∀ p ∈ (b, ob) :: G, p ∈ H₂) → s₀.heap.get? c.L = some oL → s'.gens = c.gens → s'.drawn = c.drawn → s'.os = c.os → Fly B [(c.L, oL), (Lp, oP)] [c.env, envP] e (some .none) s'.heap → c.E (.ref e) s') :
    W c (execs tryB c.env) [(Str.ofString "held", .ref b), (Str.ofString "spacing", .ref sp), (Str.ofString "column", .ref C)] ((b, ob) :: G) fun _ _ _ => False := by
  obtain ⟨osp, bg, cg, tl, hsp, hosp, ⟨_, bd, bo, e1, b1, b2, u1, u2, u3, u4, u5, b3⟩, hcg⟩ := id hs
  cases e1
  show W c (execs (_ :: _) _) _ _ _
  walk_at "go"
  refine N_list (fun it fit => ?_) (szl (Nat.le_of_ble_eq_true rfl))
  walk_at "go"
  refine mk_Box_c f (r.le (by decide)) (.inl rfl) (by unfold InDim; omega) (by unfold InDim; omega) (by unfold InDim; omega) fun x dx l od vr t5 t6 t7 fx n1 n2 n3 hB hvr => ?_
  obtain ⟨t8, t9, rfl⟩ := hvr
  walk_at "go"
  refine mk_Glue1_c f (r.le (by decide)) (by unfold InDim; omega) fun gx gd god g1 g2 g3 hgd => ?_
  walk_at "go"
  have sub : ∀ p ∈ (b, ob) :: G, p ∈ (gd, god) :: (gx, instObj 238 gd) :: (dx, od) :: (x, instObj 346 dx) :: (l, tupOf [Value.int 0 t8, Value.int 1 t9]) :: (it, listOf ([] : List Value).toArray 0) :: (b, ob) :: G := fun p hp => .tail _ (.tail _ (.tail _ (.tail _ (.tail _ (.tail _ hp)))))
  refine X_tup (sub _ (.tail _ hsp)) hosp (k := 1) (j := 1) rfl rfl ?_
  walk_at "go"
  refine X_tup (sub _ (.tail _ hsp)) hosp (k := 2) (j := 2) rfl rfl ?_
  walk_at "go"
  refine N_tuple (fun tu ftu => ?_) (szl (Nat.le_of_ble_eq_true rfl))
  walk_at "go"
  obtain ⟨z1, z2, z3, z4, z5, z6, z7, z8, z9, z10, z11, z12⟩ := hso
  refine append_box_r (B := B) (H₀ := (b, ob) :: G) (outer := [envP]) (FS := [(Lp, oP)]) (hgt := 1) (dep := 0) (s := ⟨1073741823, 0, 0, s.cw, s.cst, s.csh, s.lim⟩) f (r.le (by decide)) hh frames hcf base (fun p hp => .tail _ (sub p hp)) noL ?_ ?_ ?_ ?_ ?_ (by decide) (by dsimp only; omega) (by dsimp only; decide)
  · intro env he
    obtain rfl := List.mem_singleton.mp he
    exact ⟨hkP, Lp, oP, hfP, noP, by rw [hFR]; exact .head _, nr⟩
  · intro p hp
    obtain rfl := List.mem_singleton.mp hp
    exact ⟨by rw [hFR]; exact .head _, nr⟩
  · intro e s₀ s' oL J hL q1 q2 q3 F
    exact pesc e s₀ s' _ oL J (fun p hp => .tail _ (sub p hp)) hL q1 q2 q3 F
  · exact ⟨it, _, l, _, _, _, _, _, _, _, _, _, _, ⟨x, dx, od, rfl, .tail _ (.tail _ (.tail _ (.tail _ (.head _)))), .tail _ (.tail _ (.tail _ (.head _))), hB⟩, .tail _ (.tail _ (.tail _ (.tail _ (.tail _ (.tail _ (.head _)))))), .new, .tail _ (.tail _ (.tail _ (.tail _ (.tail _ (.head _))))), .new⟩
  · exact ⟨_, gx, cg, tl, .head _, .new, ⟨gx, gd, god, rfl, .tail _ (.tail _ (.head _)), .tail _ (.head _), hgd⟩, hcg.mono fun p hp => .tail _ (sub _ (.tail _ hp))⟩
theorem refused_hand {C b : Addr} {oC ob : Obj} {vs : List Value} {ns : List Nd} {sp : Addr} (f : Fn c (scoOf (stAt 78))) (r : Room c 19) (hm : (C, oC) ∈ H) (hl : IsL oC vs) (hb : (b, ob) ∈ H) (hob : IsL ob vs) (hn : Nds H vs ns) (hz : vs.length ≤ 900) (hok : okD 8 (.tuple (ns.map Nd.datum)) = true) :
    W c (execs handB c.env) [(Str.ofString "held", .ref b), (Str.ofString "spacing", .ref sp), (Str.ofString "column", .ref C)] H fun fl _ H' => fl = .ret (.bool true) ∧ ∀ p ∈ H, p ∈ H' := by
  show W c (execs (_ :: _) _) _ _ _
  walk_at "go"
  refine dl_c f (r.le (by decide)) hb hob hn (by omega) fun a1 H1 s1 d1 => ?_
  walk_at "go"
  refine dl_c f (r.le (by decide)) (s1 _ hm) hl (hn.mono s1) (by omega) fun a2 H2 s2 d2 => ?_
  walk_at "go"
  refine V_eqSame (d1.mono s2) d2 hok (by have := r.2; omega) ?_
  walk_at "go"
  exact ⟨rfl, fun p hp => s2 p (s1 p hp)⟩
theorem law_refused_c {C : Addr} {oC : Obj} {vs : List Value} {ns : List Nd} {sp : Addr} {s : Sp} (f : Fn c sc) (r : Room c 20) (hh : Hn c) (frames : c.A.frames = some [c.env]) (hcf : c.env.frame = some c.L) (hFR : c.FR = [])
    (hm : (C, oC) ∈ H) (hl : IsL oC vs) (hn : Nds H vs ns) (hz : vs.length ≤ 900) (hs : SpAt H sp s) (hso : s.ok) (hok : okD 8 (.tuple (ns.map Nd.datum)) = true)
    (h : ∀ H', (∀ p ∈ H, p ∈ H') → P (.bool true) m H') : W c (call (.ref 642) [.ref C, .ref sp]) m H P := fun st I => by
  refine wpAny_call (C_callW (k := 19) (binds := [(Str.ofString "column", .ref C), (Str.ofString "spacing", .ref sp)]) f I (by kernel_rfl) (by kernel_rfl) rfl (by have := r.1; omega) (by have := r.2; omega)
    (fun s _ => (BindsTo.of_eq (by kernel_rfl) : BindsTo s fd_law_refused ⟨[.ref C, .ref sp], []⟩ [(Str.ofString "column", .ref C), (Str.ofString "spacing", .ref sp)])) (locs (by kernel_rfl)) (by decide +kernel) (by kernel_rfl) (by kernel_rfl) (by kernel_rfl) fun c' D hx f' r' s₁ I₁ => ?_)
  obtain ⟨oP, esP, epP, hFR', hgetP, hdP, hkP, hfP, hE'⟩ := hx
  rw [hFR] at hFR'
  have hh' : Hn c' := by show c'.A.handled = none; rw [D.ar]; exact hh
  have frames' : c'.A.frames = some [c'.env, c.env] := by rw [D.ar]; exact Around.frames_deeper frames
  rw [← D.prog, ← D.w]
  refine wpAny_execs_cons (W_use (c := c') (P := fun fl m' H' => fl = .next ∧ ∃ b ob, PlL ob vs ∧ (∀ p ∈ H, p.1 ≠ b) ∧ m' = [(Str.ofString "held", .ref b), (Str.ofString "spacing", .ref sp), (Str.ofString "column", .ref C)] ∧ H' = (b, ob) :: H) ?_ I₁ fun fl s₂ m₂ H₂ I₂ g => ?_)
  · show W c' (exec _ _) [(Str.ofString "spacing", .ref sp), (Str.ofString "column", .ref C)] _ _
    walk_at "go"
    refine B_listL hm hl (szl (by omega)) fun b ob hob hfb => ?_
    walk_at "go"
    exact ⟨rfl, b, ob, hob, hfb, rfl, rfl⟩
  obtain ⟨rfl, b, ob, hob, hfb, rfl, rfl⟩ := g
  obtain ⟨B, base, conv, conv0⟩ := base_heap I₂
  have nP := I₂.N (c.L, oP) (List.mem_append_right _ (by rw [hFR']; exact .head _))
  have noL : B.get? c'.L = none := by
    cases q : B.get? c'.L with
    | none => rfl
    | some o =>
      rcases base _ _ q with w | w
      · exact absurd (Heap.lt_size w) (Nat.not_lt.mpr I₂.F.above)
      · exact absurd rfl (I₂.N _ (List.mem_append_left _ w)).2.1
  have noP : B.get? c.L = none := by
    cases q : B.get? c.L with
    | none => rfl
    | some o =>
      rcases base _ _ q with w | w
      · have := nP.2.2; dsimp only at this; rw [this] at w; cases w
      · exact absurd rfl (I₂.ap _ w (c.L, oP) (by rw [hFR']; exact .head _))
  have nr : NoRec oP := fun vs q => by rw [hdP] at q; cases q
  refine wpAny_execs_cons (wpAny_Try_except ?_)
  refine W_useE (c := c') (P := fun _ _ _ => False) I₂ (fun c₁ hc₁ => ?_) fun _ _ _ _ _ q => q.elim
  have f₁ : Fn c₁ (scoOf (stAt 78)) := by subst hc₁; exact ⟨f'.scope, f'.kind, f'.glob, f'.blts, f'.ok, f'.calm⟩
  have r₁ : Room c₁ 19 := by subst hc₁; exact r'
  have h₁ : Hn c₁ := by subst hc₁; exact hh'
  have p1 : c₁.A.frames = some [c₁.env, c.env] := by subst hc₁; exact frames'
  have p2 : c₁.env.frame = some c₁.L := by subst hc₁; exact D.fr
  have p3 : c₁.FR = [(c.L, oP)] := by subst hc₁; exact hFR'
  have p4 : ∀ b' o, B.get? b' = some o → c₁.h₀.get? b' = some o ∨ (b', o) ∈ (b, ob) :: H := by subst hc₁; exact base
  have p5 : B.get? c₁.L = none := by subst hc₁; exact noL
  rw [show c'.env = c₁.env from by subst hc₁; rfl]
  refine refused_try (B := B) (C := C) f₁ (r₁.le (by decide)) h₁ p1 p2 (by rw [f.scope, f.kind]; decide) hcf p3 nr p4 p5 noP hob hfb hs hso ?_
  intro e s₀ s' H₂ oL J sub hL q1 q2 q3 F
  obtain ⟨hp, g, d, tk, os⟩ := s'
  have J' : Inv c' [(Str.ofString "held", .ref b), (Str.ofString "spacing", .ref sp), (Str.ofString "column", .ref C)] H₂ s₀ := by subst hc₁; exact ⟨J.gens, J.drawn, J.os, J.Fx, J.N, J.ap⟩
  have hL' : s₀.heap.get? c'.L = some oL := by subst hc₁; exact hL
  have q1' : g = c'.gens := by subst hc₁; exact q1
  have q2' : d = c'.drawn := by subst hc₁; exact q2
  have q3' : os = c'.os := by subst hc₁; exact q3
  have F' : Fly B [(c'.L, oL), (c.L, oP)] [c'.env, c.env] e (some .none) hp := by subst hc₁; exact F
  subst hc₁
  show wpAny _ _ (noteFrame (.ref e) c'.env) _ _ _
  refine Fly.note_next (s := ⟨hp, g, d, tk, os⟩) frames' D.fr F' fun h1 F1 => ?_
  refine Fly.land (s := ⟨h1, g, d, tk, os⟩) F1 fun h2 F2 => ?_
  refine wpAny_handleBy_cons (codeAny_handlers_test ?_) (by intro q; cases q)
  have keep2 : ∀ b o, c'.h₀.get? b = some o → h2.get? b = some o := fun b o q => F2.stays _ _ (conv0 _ _ q)
  obtain ⟨mg, hg⟩ := f'.ok.gl
  refine Calls.Name_function_global (s := ⟨h2, g, d, tk, os⟩) (by rw [f'.scope]; exact f'.kind) (by unfold Env.kindOf; rw [f'.scope]; kernel_rfl)
    (Calls.loadGlobal_global (mg := mg) (v := .ref 68) (by rw [f'.glob]; exact hg.keeps keep2) (mg_of f'.ok.X hg g_Overflow) ?_) (by decide +kernel)
  obtain ⟨oe, vs2, he, hc, hd2, _⟩ := F2.exc
  have hC : h2.get? 68 = some ovObj := keep2 _ _ (f'.ok.X 68 _ (show (kk c'.w.params).lookup 68 = some (k68 c'.w.params) by kernel_rfl))
  refine wpAny_excMatches_sub_self hC he hc (by decide +kernel) ?_
  refine codeAny_handlers_suite (Fly.land (s := ⟨h2, g, d, tk, os⟩) F2 fun h3 F3 => ?_)
  obtain ⟨sl, oe3, hex, I₄⟩ := Fly.inv (s := ⟨h3, g, d, tk, os⟩) (E := notedBy (model c'.prog c'.w) (c'.A.mark (some (.ref e))) c'.env (cameBackBy (model c'.prog c'.w) c'.A c'.env c'.E)) (A := c'.A.mark (some (.ref e))) J' hL' hFR' sub conv conv0 F3 q1' q2' q3'
  refine W_use (c := { c' with FR := [(c.L, { oP with slots := sl }), (e, oe3)], E := notedBy (model c'.prog c'.w) (c'.A.mark (some (.ref e))) c'.env (cameBackBy (model c'.prog c'.w) c'.A c'.env c'.E), A := c'.A.mark (some (.ref e)) }) (refused_hand (ns := ns) ⟨f'.scope, f'.kind, f'.glob, f'.blts, f'.ok, .inr ⟨e, oe3, rfl, .tail _ (.head _), hex⟩⟩ ?_ (.tail _ hm) hl (.head _) hob.isL (hn.mono fun p hp => .tail _ hp) hz hok) I₄ fun v s5 m5 H5 K gg => ?_
  · exact r'
  obtain ⟨rfl, sub5⟩ := gg
  show ∃ m' H', Inv c m' H' s5 ∧ P (.bool true) m' H'
  refine ⟨m, H5, ⟨K.gens.trans D.gens, K.drawn.trans D.drawn, K.os.trans D.os, ?_, ?_, ?_⟩, h H5 fun p hp => sub5 p (.tail _ hp)⟩
  · have w := K.N (c.L, { oP with slots := sl }) (List.mem_append_right _ (.head _))
    exact ⟨I.mu, ⟨⟨_, esP, epP, w.1, hdP, hkP, hfP⟩, fun b o q => K.F.keep b o (by rw [show (_ : Heap) = _ from D.h₀]; exact q), I.F.above⟩, I.kn⟩
  · intro p hp
    rw [hFR, List.append_nil] at hp
    have w := K.N p (List.mem_append_left _ hp)
    refine ⟨w.1, K.ap p hp (c.L, { oP with slots := sl }) (.head _), ?_⟩
    have := w.2.2
    rw [← D.h₀]
    exact this
  · intro p hp q hq
    rw [hFR] at hq
    cases hq
end

-- ML7
noncomputable def NdB : Nd → Prop
  | .box h d => 0 ≤ h ∧ h ≤ 11 ∧ -1 ≤ d ∧ d ≤ 4
  | .rule h d => 0 ≤ h ∧ h ≤ 11 ∧ -1 ≤ d ∧ d ≤ 4
  | .kern w => 0 ≤ w ∧ w ≤ 11
  | .skip w st sh _ => -1000 ≤ w ∧ w ≤ 1000 ∧ 0 ≤ st ∧ st ≤ 3 ∧ 0 ≤ sh ∧ sh ≤ 3
  | .pen _ => True
theorem gap_bd {s : Sp} {ab z : Int} (hs : s.ok) (ha : AbOk ab) (hz : 0 ≤ z ∧ z ≤ 11) : (∀ n ∈ s.gap ab z, NdB n) ∧ (s.gap ab z).length ≤ 1 := by
  obtain ⟨g1, g2, g3, g4, g5, g6, g7, g8, g9, g10, g11, g12⟩ := hs
  unfold Sp.gap
  split
  · have ha' : -1 ≤ ab ∧ ab ≤ 5 := by rcases ha with q | q <;> omega
    split
    · refine ⟨fun n hn => ?_, by simp⟩
      obtain rfl := List.mem_singleton.mp hn
      exact ⟨by omega, by omega, by omega, by omega, by omega, by omega⟩
    · refine ⟨fun n hn => ?_, by simp⟩
      obtain rfl := List.mem_singleton.mp hn
      exact ⟨by omega, by omega, by omega, by omega, by omega, by omega⟩
  · exact ⟨fun n hn => (by cases hn), by simp⟩
theorem step_bd {s : Sp} {z : CS} {d : Dd} (hs : s.ok) (ha : AbOk z.ab) (hd : d.ok) (hz : ∀ n ∈ z.ns, NdB n) : (∀ n ∈ (z.step s d).ns, NdB n) ∧ (z.step s d).ns.length ≤ z.ns.length + 2 := by
  obtain ⟨h1, h2, h3, h4, h5⟩ := hd
  have add : ∀ x : Nd, NdB x → (∀ n ∈ z.ns ++ [x], NdB n) ∧ (z.ns ++ [x]).length ≤ z.ns.length + 2 := fun x hx => ⟨fun n hn => by
    rcases List.mem_append.mp hn with hn | hn
    · exact hz n hn
    · obtain rfl := List.mem_singleton.mp hn; exact hx, by simp⟩
  unfold CS.step
  split
  · obtain ⟨a, b⟩ := gap_bd hs ha ⟨h2, h3⟩
    refine ⟨fun n hn => ?_, by simp only [List.length_append, List.length_cons, List.length_nil]; omega⟩
    rcases List.mem_append.mp hn with hn | hn
    · rcases List.mem_append.mp hn with hn | hn
      · exact hz n hn
      · exact a n hn
    · obtain rfl := List.mem_singleton.mp hn
      exact ⟨h2, h3, h4, h5⟩
  split
  · exact add _ trivial
  split
  · exact add _ ⟨h2, h3⟩
  split
  · exact add _ ⟨by omega, by omega, by omega, by omega, by omega, by omega⟩
  · exact add _ ⟨h2, h3, h4, h5⟩
theorem colF_bd {s : Sp} {ab : Int} {ds : List Dd} (hs : s.ok) (ha : AbOk ab) (hd : ∀ d ∈ ds, d.ok) : (∀ n ∈ (colF s ab ds).ns, NdB n) ∧ (colF s ab ds).ns.length ≤ 2 * ds.length := by
  have : ∀ (l : List Dd) (z : CS), AbOk z.ab → (∀ n ∈ z.ns, NdB n) → (∀ d ∈ l, d.ok) → (∀ n ∈ (l.foldl (CS.step s) z).ns, NdB n) ∧ (l.foldl (CS.step s) z).ns.length ≤ z.ns.length + 2 * l.length := by
    intro l
    induction l with
    | nil => intro z _ h _; exact ⟨h, by simp⟩
    | cons a l ih =>
      intro z h1 h2 h3
      obtain ⟨b1, b2⟩ := step_bd hs h1 (h3 a (.head _)) h2
      obtain ⟨c1, c2⟩ := ih (z.step s a) (CS.step_ab h1 (h3 a (.head _))) b1 fun d hd => h3 d (.tail _ hd)
      exact ⟨c1, by rw [List.foldl_cons, List.length_cons]; omega⟩
  obtain ⟨a, b⟩ := this ds ⟨[], ab⟩ ha (fun n hn => by cases hn) hd
  exact ⟨a, by unfold colF; simpa using b⟩
theorem foldl_pre {s : Sp} : ∀ (l : List Dd) (p q : List Nd) (a : Int), l.foldl (CS.step s) ⟨p ++ q, a⟩ = ⟨p ++ (l.foldl (CS.step s) ⟨q, a⟩).ns, (l.foldl (CS.step s) ⟨q, a⟩).ab⟩ := by
  intro l
  induction l with
  | nil => intro p q a; rfl
  | cons d l ih =>
    intro p q a
    rw [List.foldl_cons, List.foldl_cons]
    have : CS.step s ⟨p ++ q, a⟩ d = ⟨p ++ (CS.step s ⟨q, a⟩ d).ns, (CS.step s ⟨q, a⟩ d).ab⟩ := by
      unfold CS.step
      dsimp only
      split
      · simp
      split
      · simp
      split
      · simp
      split
      · simp
      · simp
    rw [this, ih]
theorem colF_append {s : Sp} {ab : Int} {d1 d2 : List Dd} : colF s ab (d1 ++ d2) = ⟨(colF s ab d1).ns ++ (colF s (colF s ab d1).ab d2).ns, (colF s (colF s ab d1).ab d2).ab⟩ := by
  unfold colF
  rw [List.foldl_append]
  generalize List.foldl (CS.step s) ⟨[], ab⟩ d1 = z
  have := foldl_pre (s := s) d2 z.ns [] z.ab
  rw [List.append_nil] at this
  exact this
-- sums
noncomputable abbrev rowsOf (ns : List Nd) : List Rw := ns.map Nd.row
theorem sumOf_cons {g : Rw → Int} {r : Rw} {rs : List Rw} : sumOf g (r :: rs) = g r + sumOf g rs := by unfold sumOf; simp
theorem nat_gen : ∀ (l : List Nd) (z : NS), (∀ n ∈ l, NdB n) → (l.foldl NS.step z).n + (l.foldl NS.step z).dp = z.n + z.dp + sumOf Rw.w (rowsOf l) ∧ (l.foldl NS.step z).st = z.st + sumOf Rw.st (rowsOf l) ∧ (l.foldl NS.step z).sh = z.sh + sumOf Rw.sh (rowsOf l) ∧
    (0 ≤ z.wd ∧ z.wd ≤ 3 → 0 ≤ (l.foldl NS.step z).wd ∧ (l.foldl NS.step z).wd ≤ 3) ∧ (-1 ≤ z.dp ∧ z.dp ≤ 4 → -1 ≤ (l.foldl NS.step z).dp ∧ (l.foldl NS.step z).dp ≤ 4) ∧ (l.foldl NS.step z).dp = (((rowsOf l).filterMap (·.dp)).getLast?).getD z.dp := by
  intro l
  induction l with
  | nil => intro z _; refine ⟨by simp [sumOf], by simp [sumOf], by simp [sumOf], fun h => h, fun h => h, rfl⟩
  | cons a l ih =>
    intro z hb
    obtain ⟨i1, i2, i3, i4, i5, i6⟩ := ih (z.step a) fun n hn => hb n (.tail _ hn)
    have hba := hb a (.head _)
    rw [List.foldl_cons]
    have e : rowsOf (a :: l) = a.row :: rowsOf l := rfl
    rw [e, sumOf_cons, sumOf_cons, sumOf_cons]
    have lastc : ∀ x : Int, a.row.dp = some x → (z.step a).dp = x → (((a.row :: rowsOf l).filterMap (·.dp)).getLast?).getD z.dp = (((rowsOf l).filterMap (·.dp)).getLast?).getD (z.step a).dp := fun x h1 h2 => by
      rw [List.filterMap_cons, h1]
      dsimp only
      rw [h2, List.getLast?_cons]
      simp
    cases a with
    | box h d =>
      refine ⟨by rw [i1]; simp only [NS.step, Nd.row]; omega, by rw [i2]; simp [NS.step, Nd.row], by rw [i3]; simp [NS.step, Nd.row], fun h => i4 (by simp only [NS.step]; omega), fun h => i5 ⟨hba.2.2.1, hba.2.2.2⟩, by rw [i6, lastc d rfl rfl]⟩
    | rule h d =>
      refine ⟨by rw [i1]; simp only [NS.step, Nd.row]; omega, by rw [i2]; simp [NS.step, Nd.row], by rw [i3]; simp [NS.step, Nd.row], fun h => i4 (by simp only [NS.step]; omega), fun h => i5 ⟨hba.2.2.1, hba.2.2.2⟩, by rw [i6, lastc d rfl rfl]⟩
    | kern w =>
      refine ⟨by rw [i1]; simp only [NS.step, Nd.row]; omega, by rw [i2]; simp [NS.step, Nd.row], by rw [i3]; simp [NS.step, Nd.row], fun h => i4 (by simp only [NS.step]; omega), fun h => i5 (show (-1 : Int) ≤ 0 ∧ (0 : Int) ≤ 4 by decide), by rw [i6, lastc 0 rfl rfl]⟩
    | skip w st sh k =>
      refine ⟨by rw [i1]; simp only [NS.step, Nd.row]; omega, by rw [i2]; simp only [NS.step, Nd.row]; omega, by rw [i3]; simp only [NS.step, Nd.row]; omega, fun h => i4 (by simp only [NS.step]; omega), fun h => i5 (show (-1 : Int) ≤ 0 ∧ (0 : Int) ≤ 4 by decide), by rw [i6, lastc 0 rfl rfl]⟩
    | pen v =>
      refine ⟨by rw [i1]; simp only [NS.step, Nd.row]; omega, by rw [i2]; simp [NS.step, Nd.row], by rw [i3]; simp [NS.step, Nd.row], fun h => i4 (by simp only [NS.step]; omega), fun h => i5 h, by rw [i6]; rfl⟩
theorem sum_bd {g : Rw → Int} {lo hi : Int} : ∀ (rs : List Rw), (∀ r ∈ rs, lo ≤ g r ∧ g r ≤ hi) → lo * rs.length ≤ sumOf g rs ∧ sumOf g rs ≤ hi * rs.length := by
  intro rs
  induction rs with
  | nil => intro _; simp [sumOf]
  | cons r rs ih =>
    intro h
    obtain ⟨a, b⟩ := ih fun r hr => h r (.tail _ hr)
    obtain ⟨p, q⟩ := h r (.head _)
    rw [sumOf_cons, List.length_cons, Int.natCast_succ, Int.mul_add, Int.mul_add]
    omega
theorem z03 : (0 : Int) ≤ 0 ∧ (0 : Int) ≤ 3 := by decide
theorem row_bd {n : Nd} (h : NdB n) : (-1000 ≤ n.row.w ∧ n.row.w ≤ 1000) ∧ (0 ≤ n.row.st ∧ n.row.st ≤ 3) ∧ (0 ≤ n.row.sh ∧ n.row.sh ≤ 3) := by
  cases n with
  | box a b => obtain ⟨h1, h2, h3, h4⟩ := h; exact ⟨by show -1000 ≤ a + b ∧ a + b ≤ 1000; omega, z03, z03⟩
  | rule a b => obtain ⟨h1, h2, h3, h4⟩ := h; exact ⟨by show -1000 ≤ a + b ∧ a + b ≤ 1000; omega, z03, z03⟩
  | kern a => obtain ⟨h1, h2⟩ := h; exact ⟨by show -1000 ≤ a ∧ a ≤ 1000; omega, z03, z03⟩
  | skip a b c d => obtain ⟨h1, h2, h3, h4, h5, h6⟩ := h; exact ⟨⟨h1, h2⟩, ⟨h3, h4⟩, ⟨h5, h6⟩⟩
  | pen v => exact ⟨show (-1000 : Int) ≤ 0 ∧ (0 : Int) ≤ 1000 by decide, z03, z03⟩
theorem rows_bd {ns : List Nd} (h : ∀ n ∈ ns, NdB n) : ∀ r ∈ rowsOf ns, (-1000 ≤ r.w ∧ r.w ≤ 1000) ∧ (0 ≤ r.st ∧ r.st ≤ 3) ∧ (0 ≤ r.sh ∧ r.sh ≤ 3) := fun r hr => by
  obtain ⟨n, hn, rfl⟩ := List.mem_map.mp hr
  exact row_bd (h n hn)
-- the places
theorem roundI0 (b : Int) (hb : 0 < b) : roundI 0 b = 0 := by
  unfold roundI
  rw [if_neg (by decide)]
  rw [Int.fdiv_eq_ediv_of_nonneg _ (by omega)]
  exact Int.ediv_eq_zero_of_lt (by omega) (by omega)
theorem farI0 (T fl : Int) (hT : 0 ≤ T) : farI T 0 fl = 0 := by
  unfold farI
  by_cases h : T = 0
  · rw [if_pos h]
  · rw [if_neg h]
    simp only [Int.lt_irrefl, if_false, Int.mul_zero, Int.zero_mul, Int.zero_add]
    rw [Int.fdiv_eq_ediv_of_nonneg _ (by omega)]
    exact Int.ediv_eq_zero_of_lt (by omega) (by omega)
theorem part_row {sg : Int} {p : PS} {n : Nd} : (p.part sg n).1 = p.fx + n.row.w ∧ (p.part sg n).2 = p.fl + (if sg = 1 then n.row.st else if sg = 2 then -n.row.sh else 0) := by
  cases n <;> simp [PS.part, Nd.row, Nd.size, Nd.height, Nd.depth, flexI]
theorem places_eq {sg u dd e : Int} {ns : List Nd} (hb : ∀ n ∈ ns, NdB n) (h : (sg = 0 ∧ u = 0 ∧ dd = 1 ∧ e = 0) ∨ (sg = 1 ∧ u = e ∧ dd = sumOf Rw.st (rowsOf ns) ∧ 0 < e ∧ 0 < sumOf Rw.st (rowsOf ns)) ∨ (sg = 2 ∧ u = -e ∧ dd = sumOf Rw.sh (rowsOf ns) ∧ e < 0 ∧ 0 < sumOf Rw.sh (rowsOf ns))) :
    (plcF sg u dd ns).out = (begF (totalOf e (rowsOf ns)) e (rowsOf ns)).out := by
  have hsh : 0 ≤ sumOf Rw.sh (rowsOf ns) := by
    have := (sum_bd (g := Rw.sh) (lo := 0) (hi := 3) (rowsOf ns) fun r hr => (rows_bd hb r hr).2.2).1
    omega
  have gen : ∀ (l : List Nd) (T : Int) (p : PS) (b : BS), (∀ n ∈ l, NdB n) → p.fx = b.fx → p.out = b.out → 0 ≤ b.fl →
      ((sg = 0 ∧ u = 0 ∧ dd = 1 ∧ e = 0 ∧ 0 ≤ T) ∨ (sg = 1 ∧ u = e ∧ dd = T ∧ 0 < e ∧ 0 < T ∧ p.fl = b.fl) ∨ (sg = 2 ∧ u = -e ∧ dd = T ∧ e < 0 ∧ 0 < T ∧ p.fl = -b.fl)) →
      (l.foldl (PS.step sg u dd) p).out = ((rowsOf l).foldl (BS.step T e) b).out := by
    intro l
    induction l with
    | nil => intro T p b _ _ h _ _; exact h
    | cons n l ih =>
      intro T p b hb h1 h2 h3 hc
      obtain ⟨r1, r2, r3⟩ := row_bd (hb n (.head _))
      obtain ⟨q1, q2⟩ := part_row (sg := sg) (p := p) (n := n)
      rw [List.foldl_cons, show rowsOf (n :: l) = n.row :: rowsOf l from rfl, List.foldl_cons]
      refine ih T _ _ (fun m hm => hb m (.tail _ hm)) ?_ ?_ ?_ ?_
      · show (p.part sg n).1 = b.fx + n.row.w
        rw [q1, h1]
      · show p.out ++ [(p.part sg n).1 + roundI (u * (p.part sg n).2) dd] = b.out ++ _
        rw [h2, q1, q2, h1]
        congr 2
        rcases hc with ⟨rfl, rfl, rfl, rfl, c5⟩ | ⟨rfl, rfl, rfl, c4, c5, c6⟩ | ⟨rfl, rfl, rfl, c4, c5, c6⟩
        · rw [Int.zero_mul, roundI0 _ (by decide), farI0 _ _ c5]
          simp
        · rw [if_pos rfl, if_pos c4, if_pos c4, c6]
          congr 1
          unfold roundI farI
          rw [if_neg (by have := Int.mul_nonneg (Int.le_of_lt c4) (show 0 ≤ b.fl + n.row.st by omega); omega), if_neg (by omega), if_neg (by omega)]
          rw [Int.mul_assoc]
        · rw [if_neg (by decide), if_pos rfl, if_neg (by omega), if_neg (by omega), c6]
          have hx : -e * (-b.fl + -n.row.sh) = e * (b.fl + n.row.sh) := by rw [← Int.neg_add, Int.neg_mul_neg]
          rw [hx]
          show _ + roundI (e * (b.fl + n.row.sh)) _ = _
          have hfl : 0 ≤ b.fl + n.row.sh := by omega
          generalize b.fl + n.row.sh = x at *
          unfold roundI farI
          rw [if_neg (show ¬ dd = 0 by omega), if_pos c4]
          have hm : e * x ≤ 0 := Int.mul_nonpos_of_nonpos_of_nonneg (by omega) hfl
          have hy : 2 * -e * x = -(2 * (e * x)) := by rw [Int.mul_neg, Int.neg_mul, Int.mul_assoc]
          rw [hy]
          by_cases h0 : e * x < 0
          · rw [if_pos h0, show dd - 2 * (e * x) = -(2 * (e * x)) + dd by omega]
            omega
          · have : e * x = 0 := by omega
            rw [this, if_neg (by decide)]
            rw [Int.fdiv_eq_ediv_of_nonneg _ (by omega), Int.fdiv_eq_ediv_of_nonneg _ (by omega)]
            rw [Int.ediv_eq_zero_of_lt (by omega) (by omega), Int.ediv_eq_zero_of_lt (by omega) (by omega)]
            omega
      · show 0 ≤ b.fl + _
        split <;> omega
      · rcases hc with ⟨c1, c2, c3, c4, c5⟩ | ⟨rfl, c2, c3, c4, c5, c6⟩ | ⟨rfl, c2, c3, c4, c5, c6⟩
        · exact .inl ⟨c1, c2, c3, c4, c5⟩
        · refine .inr (.inl ⟨rfl, c2, c3, c4, c5, ?_⟩)
          show (p.part 1 n).2 = b.fl + _
          rw [q2, if_pos rfl, if_pos c4, c6]
        · refine .inr (.inr ⟨rfl, c2, c3, c4, c5, ?_⟩)
          show (p.part 2 n).2 = -(b.fl + _)
          rw [q2, if_neg (by decide), if_pos rfl, if_neg (by omega), c6]
          omega
  refine gen ns (totalOf e (rowsOf ns)) ⟨0, 0, [0]⟩ ⟨0, 0, [0]⟩ hb rfl rfl (by decide) ?_
  unfold totalOf
  rcases h with ⟨c1, c2, c3, rfl⟩ | ⟨c1, c2, c3, c4, c5⟩ | ⟨c1, c2, c3, c4, c5⟩
  · exact .inl ⟨c1, c2, c3, rfl, by rw [if_neg (by decide)]; exact hsh⟩
  · exact .inr (.inl ⟨c1, c2, by rw [if_pos c4]; exact c3, c4, by rw [if_pos c4]; exact c5, rfl⟩)
  · exact .inr (.inr ⟨c1, c2, by rw [if_neg (by omega)]; exact c3, c4, by rw [if_neg (by omega)]; exact c5, by decide⟩)

-- ML8
set_option maxHeartbeats 4000000
section
variable {c : Cfg} {sc : Scope} {m : Mp} {H : Led} {P : Flow → Mp → Led → Prop}
theorem ap_in {D : Addr} {o : Obj} {G : Led} {x : Addr} (h : ∀ p ∈ (D, o) :: G, p.1 ≠ x) : x ≠ D := (h _ (.head _)).symm
noncomputable def lawS (k : Nat) : Stmt := ((bodOf (stAt 79))[k]?).getD (.Pass default)
noncomputable def lawR (k : Nat) : List Stmt := (bodOf (stAt 79)).drop k
/-- the draws -/
theorem law_a {S : Addr} {vs : List Value} (f : Fn c (scoOf (stAt 79))) (r : Room c 10) (hh : Hn c) (hs : LstAt c H S vs) (hi : ∀ v ∈ vs, ∃ x t, v = .int x t) (hz : vs.length ≤ 1000)
    (h : ∀ D o G sp s ab tb L oL ws ds, PoolOk o 40 → (∀ p ∈ G, p.1 ≠ D) → SpAt G sp s → s.ok → AbOk ab → (L, oL) ∈ G → PlL oL ws → Dds G ws ds → 2 ≤ ds.length → ds.length ≤ 8 → (∀ d ∈ ds, d.ok) →
      W c (exec (lawS 5) c.env) [(Str.ofString "deeds", .ref L), (Str.ofString "above", .int ab tb), (Str.ofString "spacing", .ref sp), (Str.ofString "pool", .ref D)] ((D, o) :: G) (Seq c (lawR 6) P)) :
    W c (execs (bodOf (stAt 79)) c.env) [(Str.ofString "script", .ref S)] H P := by
  show W c (execs (_ :: _) _) _ _ _
  walk_at "go"
  refine law_pool_c f (r.le (by decide)) hs hi hz fun D o hp frD => ?_
  walk_at "go"
  refine law_take_c f (r.le (by decide)) hp (by decide) (by decide) (by decide) frD fun o1 w t1 hp1 w0 w1 => ?_
  walk_at "go"
  refine N_list (fun l2 fl2 => ?_) (szl (Nat.le_of_ble_eq_true rfl))
  walk_at "go"
  refine W_swap ?_
  refine law_take_c f (r.le (by decide)) hp1 (by decide) (by decide) (by decide) (ap_cons (ap_in fl2) frD) fun o2 n2 t2 hp2 n20 n21 => ?_
  refine X_pick (fun s => 0 ≤ s ∧ s ≤ 2) (.tail _ (.head _)) .new n20 n21 ?_ (fun st ts hst => ?_) (by omega)
  · intro v hv
    simp only [List.mem_cons, List.not_mem_nil, or_false] at hv
    rcases hv with h | h <;> exact ⟨_, _, h, by decide⟩
  refine W_drop2 ?_
  walk_at "go"
  refine N_list (fun l3 fl3 => ?_) (szl (Nat.le_of_ble_eq_true rfl))
  walk_at "go"
  refine W_swap ?_
  refine law_take_c f (r.le (by decide)) hp2 (by decide) (by decide) (by decide) (ap_cons (ap_in fl3) frD) fun o3 n3 t3 hp3 n30 n31 => ?_
  refine X_pick (fun s => 0 ≤ s ∧ s ≤ 1) (.tail _ (.head _)) .new n30 n31 ?_ (fun sh ts2 hsh => ?_) (by omega)
  · intro v hv
    simp only [List.mem_cons, List.not_mem_nil, or_false] at hv
    rcases hv with h | h <;> exact ⟨_, _, h, by decide⟩
  refine W_drop2 ?_
  walk_at "go"
  refine mk_Glue_c f (r.le (by decide)) (by unfold InDim; omega) (by unfold InDim; omega) (by unfold InDim; omega) fun gx gd god g1 g2 g3 hgd => ?_
  walk_at "go"
  refine W_third ?_
  have fr1 := ap_cons (o := god) (ap_in g2) (ap_cons (o := instObj 238 gd) (ap_in g1) frD)
  refine law_take_c f (r.le (by decide)) hp3 (by decide) (by decide) (by decide) fr1 fun o4 n4 t4 hp4 n40 n41 => ?_
  walk_at "go"
  refine mk_Glue_c f (r.le (by decide)) (by unfold InDim; omega) (by unfold InDim; omega) (by unfold InDim; omega) fun kx kd kod k1 k2 k3 hkd => ?_
  walk_at "go"
  refine W_third ?_
  have fr2 := ap_cons (o := kod) (ap_in k2) (ap_cons (o := instObj 238 kd) (ap_in k1) fr1)
  refine N_list (fun l5 fl5 => ?_) (szl (Nat.le_of_ble_eq_true rfl))
  walk_at "go"
  refine W_swap ?_
  refine law_take_c f (r.le (by decide)) hp4 (by decide) (by decide) (by decide) (ap_cons (ap_in fl5) fr2) fun o5 n5 t5 hp5 n50 n51 => ?_
  refine X_pick (fun s => -3 ≤ s ∧ s ≤ 4) (.tail _ (.head _)) .new n50 n51 ?_ (fun lim tl hlim => ?_) (by omega)
  · intro v hv
    simp only [List.mem_cons, List.not_mem_nil, or_false] at hv
    rcases hv with h | h | h <;> exact ⟨_, _, h, by decide⟩
  refine W_drop2 ?_
  walk_at "go"
  refine N_tuple (fun sp fsp => ?_) (szl (Nat.le_of_ble_eq_true rfl))
  walk_at "go"
  refine W_swap ?_
  have fr3 := ap_cons (o := tupOf [.ref gx, .ref kx, .int lim tl]) (ap_in fsp) fr2
  refine N_list (fun l6 fl6 => ?_) (szl (Nat.le_of_ble_eq_true rfl))
  walk_at "go"
  refine W_swap ?_
  refine law_take_c f (r.le (by decide)) hp5 (by decide) (by decide) (by decide) (ap_cons (ap_in fl6) fr3) fun o6 n6 t6 hp6 n60 n61 => ?_
  refine X_pick AbOk (.tail _ (.head _)) .new n60 n61 ?_ (fun ab tb hab => ?_) (by omega)
  · intro v hv
    simp only [List.mem_cons, List.not_mem_nil, or_false] at hv
    rcases hv with h | h | h <;> refine ⟨_, _, h, ?_⟩
    · exact .inl rfl
    · exact .inr ⟨by decide, by decide⟩
    · exact .inr ⟨by decide, by decide⟩
  refine W_drop2 ?_
  walk_at "go"
  refine law_deeds_c f (r.le (by decide)) hh hp6 (by decide) fr3 fun o7 L oL ws ds G hp7 sb fG hL hoL hds l1 l2' hok => ?_
  walk_at "go"
  refine W_know (Kn.of ?_) (h D o7 G sp ⟨w, st, sh, 1 + n4, 1, 0, lim⟩ ab tb L oL ws ds (by obtain ⟨x, y, a, b, q1, q2, q3, q4⟩ := hp7; exact ⟨x, y, a, b, q1, q2, q3, by omega⟩) fG ?_ ?_ hab hL hoL hds l1 l2' hok)
  · repeat (first | exact .nil | refine .cons (by rfl) ?_)
  · exact ⟨_, gx, kx, tl, sb _ (.head _), .new, ⟨gx, gd, god, rfl, sb _ (.tail _ (.tail _ (.tail _ (.tail _ (.head _))))), sb _ (.tail _ (.tail _ (.tail _ (.head _)))), hgd⟩, kx, kd, kod, rfl, sb _ (.tail _ (.tail _ (.head _))), sb _ (.tail _ (.head _)), hkd⟩
  · refine ⟨?_, ?_, ?_, ?_, ?_, ?_, ?_, ?_, rfl, rfl, ?_, ?_⟩ <;> dsimp only <;> omega
end

-- ML9
theorem okDs_ints (n : Nat) (is : List Int) : okDs n (is.map .int) = true := by
  induction is with
  | nil => rfl
  | cons a l ih => rw [List.map_cons, okDs, ih]; cases n <;> rfl
theorem okD_listI (is : List Int) : okD 8 (.list (is.map .int)) = true := by rw [okD]; exact okDs_ints _ _
theorem okD_tupI (is : List Int) : okD 8 (.tuple (is.map .int)) = true := by rw [okD]; exact okDs_ints _ _
theorem okD_datum (n : Nd) : okD 7 n.datum = true := by cases n <;> rfl
theorem okD_datums (ns : List Nd) : okD 8 (.tuple (ns.map Nd.datum)) = true := by
  rw [okD]
  induction ns with
  | nil => rfl
  | cons a l ih => rw [List.map_cons, okDs, ih, okD_datum]; rfl
theorem intsGet {vs : List Value} {is : List Int} (h : IntsAre vs is) : ∀ j (hj : j < is.length), ∃ t, vs[j]? = some (.int is[j] t) := by
  induction h with
  | nil => intro j hj; cases hj
  | cons n t _ ih =>
    intro j hj
    cases j with
    | zero => exact ⟨t, rfl⟩
    | succ j => obtain ⟨t, e⟩ := ih j (by simpa using hj); exact ⟨t, by simpa using e⟩
theorem kinds_eq (ns : List Nd) : (rowsOf ns).map Rw.k = ns.map Nd.kind := by
  unfold rowsOf
  rw [List.map_map]
  refine List.map_congr_left fun n _ => ?_
  cases n <;> rfl
inductive LsD (G : Led) (L : Addr) (ds : List Dd) : Prop
  | mk (oL : Obj) (ws : List Value) (h1 : (L, oL) ∈ G) (h2 : PlL oL ws) (h3 : Dds G ws ds) : LsD G L ds
inductive LsC (G : Led) (C : Addr) (ns : List Nd) : Prop
  | mk (oC : Obj) (cs : List Value) (h1 : (C, oC) ∈ G) (h2 : PlL oC cs) (h3 : Nds G cs ns) : LsC G C ns
inductive LsR (G : Led) (R : Addr) (ns : List Rw) : Prop
  | mk (oR : Obj) (rs : List Value) (h1 : (R, oR) ∈ G) (h2 : PlL oR rs) (h3 : Rws G rs ns) : LsR G R ns
/-- what the law has at hand -/
structure LS (G : Led) (D L C R sp : Addr) (s : Sp) (ab : Int) (ds : List Dd) : Prop where
  fr : ∀ p ∈ G, p.1 ≠ D
  hs : SpAt G sp s
  so : s.ok
  abo : AbOk ab
  len : 2 ≤ ds.length ∧ ds.length ≤ 8
  ok : ∀ d ∈ ds, d.ok
  deeds : LsD G L ds
  col : LsC G C (colF s ab ds).ns
  rows : LsR G R (rowsOf (colF s ab ds).ns)
theorem LS.mono {G G' : Led} {D L C R sp : Addr} {s : Sp} {ab : Int} {ds : List Dd} (x : LS G D L C R sp s ab ds) (k : ∀ p ∈ G, p ∈ G') (fr : ∀ p ∈ G', p.1 ≠ D) : LS G' D L C R sp s ab ds := by
  obtain ⟨a1, a2, a3, a4, a5, a6, ⟨oL, ws, b1, b2, b3⟩, ⟨oC, cs, c1, c2, c3⟩, ⟨oR, rs, d1, d2, d3⟩⟩ := x
  exact ⟨fr, a2.mono k, a3, a4, a5, a6, ⟨oL, ws, k _ b1, b2, b3.mono k⟩, ⟨oC, cs, k _ c1, c2, c3.mono k⟩, ⟨oR, rs, k _ d1, d2, d3.mono k⟩⟩
set_option maxHeartbeats 4000000
section
variable {c : Cfg} {sc : Scope} {m : Mp} {H : Led} {P : Flow → Mp → Led → Prop}
theorem W_frD {α : Type} {t : Sem α} {D : Addr} {o : Obj} {G : Led} {k : Nat} {P : α → Mp → Led → Prop} (f : Fn c sc) (hh : Hn c) (r : Room c k) (fr : ∀ p ∈ G, p.1 ≠ D)
    (h : ∀ c₂ : Cfg, Fn c₂ sc → Room c₂ k → Hn c₂ → W c₂ t m G fun v m' G' => (∀ p ∈ G', p.1 ≠ D) → P v m' ((D, o) :: G')) : W c t m ((D, o) :: G) P := by
  refine W_frame (R := [(D, o)]) (fun p hp q hq => ?_) (W_mono (h { c with FR := [(D, o)] ++ c.FR } ⟨f.scope, f.kind, f.glob, f.blts, f.ok, .inl hh⟩ r hh) fun v m' G' w k => w fun p hp => k p hp _ (.head _))
  obtain rfl := List.mem_singleton.mp hq
  exact fr p hp
theorem X_lastI {value slice : Expr} {t : Addr} {o : Obj} {vs : List Value} {is : List Int} {u : Tok} {P : Value → Mp → Led → Prop} (hm : (t, o) ∈ H) (ht : IsL o vs) (hi : IntsAre vs (0 :: is)) (h : ∀ k, P (.int (is.getLast?.getD 0) k) m H)
    (hs : subscripted slice false (.ref t) (.int (-1) u) = operate [.ref t, .int (-1) u] (getItem (.ref t) (.int (-1) u)) := by with_unfolding_all rfl) :
    W c (subscriptTail value slice (.ref t) (.int (-1) u)) m H P := by
  have hl := intsLen hi
  rw [List.length_cons] at hl
  obtain ⟨k, e⟩ := intsGet hi is.length (by simp)
  have e2 : (0 :: is)[is.length]'(by simp) = is.getLast?.getD 0 := by
    cases is with
    | nil => rfl
    | cons a l => simp [List.getLast?_eq_getElem?]
  rw [e2] at e
  exact X_lstNeg (j := is.length) hm ht (by decide) (by rw [hl, PySem.seqIndex_neg (by decide) (by simp; omega)]; simp; omega) e (h k) (by decide) hs
theorem law_b {D L sp : Addr} {o oL : Obj} {G : Led} {s : Sp} {ab : Int} {tb : Tok} {ws : List Value} {ds : List Dd} (f : Fn c (scoOf (stAt 79))) (r : Room c 20) (hh : Hn c) (hp : PoolOk o 40) (fr : ∀ p ∈ G, p.1 ≠ D) (hs : SpAt G sp s) (hso : s.ok) (hab : AbOk ab)
    (hL : (L, oL) ∈ G) (hoL : PlL oL ws) (hds : Dds G ws ds) (l1 : 2 ≤ ds.length) (l2 : ds.length ≤ 8) (hok : ∀ d ∈ ds, d.ok)
    (h : ∀ G' C R told tw td te, LS G' D L C R sp s ab ds → Rd G' told (.tuple ((colF s ab ds).ns.map Nd.datum)) →
      W c (exec (lawS 11) c.env) [(Str.ofString "whole", .int (sumOf Rw.w (rowsOf (colF s ab ds).ns)) tw), (Str.ofString "deep", .int (natF (colF s ab ds).ns).dp td), (Str.ofString "told", told), (Str.ofString "rows", .ref R), (Str.ofString "end", .int (colF s ab ds).ab te), (Str.ofString "column", .ref C), (Str.ofString "deeds", .ref L), (Str.ofString "above", .int ab tb), (Str.ofString "spacing", .ref sp), (Str.ofString "pool", .ref D)] ((D, o) :: G') (Seq c (lawR 12) P)) :
    W c (exec (lawS 5) c.env) [(Str.ofString "deeds", .ref L), (Str.ofString "above", .int ab tb), (Str.ofString "spacing", .ref sp), (Str.ofString "pool", .ref D)] ((D, o) :: G) (Seq c (lawR 6) P) := by
  show W c (exec (.Assign _ _ _) _) _ _ (Seq c (_ :: _) P)
  refine S_assignT ?_ (by with_unfolding_all rfl) (by rw [sw_scope f.scope]; kernel_rfl)
  walk_at "go"
  refine W_frD f hh r fr fun c₂ f₂ r₂ hh₂ => ?_
  refine law_column_c f₂ (r₂.le (by decide)) hh₂ hL hoL.isL hds l2 hok hs hso hab fun t C oC cs te G1 sb1 hC hoC hcs ht fr1 => ?_
  refine A_tup hh (.tail _ ht) .new rfl ?_
  show W _ (assignInOrder [assign (.Name _ _) c.env, assign (.Name _ _) c.env, assign (.Name _ _) c.env] _) _ _ _
  walk_at "go"
  refine W_frD f hh r fr1 fun c₂ f₂ r₂ hh₂ => ?_
  refine law_rows_c f₂ (r₂.le (by decide)) hh₂ (sb1 _ hL) hoL.isL (hds.mono sb1) l2 hok (hs.mono sb1) hso hab fun R oR rs G2 sb2 hR hoR hrs fr2 => ?_
  walk_at "go"
  have ls : LS G2 D L C R sp s ab ds := ⟨fr2, (hs.mono sb1).mono sb2, hso, hab, ⟨l1, l2⟩, hok, ⟨oL, ws, sb2 _ (sb1 _ hL), hoL, (hds.mono sb1).mono sb2⟩, ⟨oC, cs, sb2 _ hC, hoC, hcs.mono sb2⟩, ⟨oR, rs, hR, hoR, hrs⟩⟩
  -- from here printed
  have cslen := hcs.length
  have rslen := hrs.length
  obtain ⟨bd, bl⟩ := colF_bd (s := s) hso hab hok
  have hcs2 := hcs.mono sb2
  have hC2 := sb2 _ hC
  clear hcs ht sb1 sb2 hC hp
  generalize hz : colF s ab ds = z at *
  generalize z.ns = ns at *
  have rslen2 : rs.length = (rowsOf ns).length := rslen
  have nslen : (rowsOf ns).length = ns.length := by rw [List.length_map]
  refine W_comp (cl := []) f (by with_unfolding_all rfl) (by decide) rfl (by decide) (by rfl) ?_
  walk_at "go"
  refine ⟨C, oC, cs, fun i ys H' => ((D, o) :: G2) = H' ∧ IntsAre ys ((ns.map Nd.kind).take i), rfl, .inl hoC.isL, szl (by omega), ⟨rfl, .nil⟩, fun i ys H' h => h.1 ▸ (.tail _ hC2), ?_, ?_⟩
  · rintro i ys H' m' c₂ v hv ⟨rfl, hy⟩ lk
    have f₂ := lk.fn f rfl
    obtain ⟨n, hni, hnv⟩ := hcs2.get hv
    have up : NdAt ((D, o) :: G2) v n := hnv.mono fun p hp => .tail _ hp
    refine tests_nil (ift rfl ?_)
    walk_at "gok"

    refine ⟨rfl, ?_⟩
    rw [take_next (a := Nd.kind n) (by rw [List.getElem?_map, hni]; rfl)]
    exact hy.append (.cons _ _ .nil)
  rintro ys1 H' a1 o1 ⟨eH1, hy1⟩ hpl1 fa1
  rw [List.take_of_length_le (by rw [List.length_map]; omega)] at hy1
  subst eH1
  walk_at "go"
  refine W_comp (cl := []) f (by with_unfolding_all rfl) (by decide) rfl (by decide) (by rfl) ?_
  walk_at "go"
  refine ⟨R, oR, rs, fun i ys H' => ((a1, o1) :: (D, o) :: G2) = H' ∧ IntsAre ys (((rowsOf ns).map Rw.k).take i), rfl, .inl hoR.isL, szl (by omega), ⟨rfl, .nil⟩, fun i ys H' h => h.1 ▸ (.tail _ (.tail _ hR)), ?_, ?_⟩
  · rintro i ys H' m' c₂ v hv ⟨rfl, hy⟩ lk
    have f₂ := lk.fn f rfl
    obtain ⟨n, hni, va, voa, t1, t2, t3, t4, t5, rfl, hva, hvo⟩ := hrs.get hv
    refine tests_nil (ift rfl ?_)
    walk_at "go"
    refine X_tup (.tail _ (.tail _ hva)) hvo (k := 3) (j := 3) rfl rfl ?_
    refine ⟨rfl, ?_⟩
    rw [take_next (a := Rw.k n) (by rw [List.getElem?_map, hni]; rfl)]
    exact hy.append (.cons _ _ .nil)
  rintro ys2 H' a2 o2 ⟨eH2, hy2⟩ hpl2 fa2
  rw [List.take_of_length_le (by rw [List.length_map]; omega)] at hy2
  subst eH2
  walk_at "go"
  refine V_neSame (d := .list ((ns.map Nd.kind).map .int)) (.list (.tail _ (.head _)) hpl1.isL (IntsAre.rds hy1)) (.list (.head _) hpl2.isL (by rw [kinds_eq] at hy2; exact IntsAre.rds hy2)) (okD_listI _) (by have := r.2; omega) ?_
  refine W_drop (W_drop ?_)
  walk_at "go"
  refine W_frD f hh r fr2 fun c₂ f₂ r₂ hh₂ => ?_
  refine dl_c f₂ (r₂.le (by decide)) hC2 hoC.isL hcs2 (by omega) fun a3 G3 sb3 hrd fr3 => ?_
  walk_at "go"
  refine N_list (fun l4 fl4 => ?_) (szl (Nat.le_of_ble_eq_true rfl))
  walk_at "go"
  rename_i tz
  refine W_comp (cl := []) f (by with_unfolding_all rfl) (by decide) rfl (by decide) (by rfl) ?_
  walk_at "go"
  refine ⟨R, oR, rs, fun i ys H' => ((l4, listOf [Value.int 0 tz].toArray 0) :: (D, o) :: G3) = H' ∧ IntsAre ys (((rowsOf ns).take i).filterMap (·.dp)), rfl, .inl hoR.isL, szl (by omega), ⟨rfl, .nil⟩, fun i ys H' h => h.1 ▸ (.tail _ (.tail _ (sb3 _ hR))), ?_, ?_⟩
  · rintro i ys H' m' c₂ v hv ⟨rfl, hy⟩ lk
    have f₂ := lk.fn f rfl
    obtain ⟨n, hni, va, voa, t1, t2, t3, t4, t5, rfl, hva, hvo⟩ := hrs.get hv
    refine tests_one ?_
    walk_at "go"
    refine X_tup (.tail _ (.tail _ (sb3 _ hva))) hvo (k := 4) (j := 4) rfl rfl ?_
    cases hdp : n.dp with
    | none =>
      rw [hdp] at hvo
      walk_at "go"
      show W _ (compareOp .IsNot .none .none) _ _ _
      walk_at "go"
      refine ⟨rfl, ?_⟩
      rw [take_next hni, List.filterMap_append]
      simpa [hdp] using hy
    | some d =>
      rw [hdp] at hvo
      walk_at "go"
      show W _ (compareOp .IsNot (.int d t5) .none) _ _ _
      walk_at "go"
      refine X_tup (.tail _ (.tail _ (sb3 _ hva))) hvo (k := 4) (j := 4) rfl rfl ?_
      refine ⟨rfl, ?_⟩
      rw [take_next hni, List.filterMap_append]
      simp only [List.filterMap_cons, hdp, List.filterMap_nil]
      exact hy.append (.cons d _ .nil)
  rintro ys4 H' a4 o4 ⟨eH4, hy4⟩ hpl4 fa4
  rw [List.take_of_length_le (by omega)] at hy4
  subst eH4
  have h4l := intsLen hy4
  have h4m : ((rowsOf ns).filterMap (·.dp)).length ≤ (rowsOf ns).length := List.length_filterMap_le _ _
  refine V_addL (.tail _ (.head _)) .new (.head _) hpl4.isL (by rw [sizeLine_eq]; simp only [List.length_cons, List.length_nil]; omega) fun a5 f5 => ?_
  walk_at "go"
  refine X_lastI (is := (rowsOf ns).filterMap fun x : Rw => x.dp) (.head _) .new (show IntsAre ([Value.int 0 tz] ++ ys4) (0 :: _) from .cons 0 tz hy4) fun td => ?_
  refine W_drop (W_drop (W_drop ?_))
  have dpe : ((rowsOf ns).filterMap (·.dp)).getLast?.getD 0 = (natF ns).dp := (nat_gen ns ⟨0, 0, 0, 0, 0⟩ bd).2.2.2.2.2.symm
  rw [dpe]
  walk_at "go"
  refine W_comp (cl := []) f (by with_unfolding_all rfl) (by decide) rfl (by decide) (by rfl) ?_
  walk_at "go"
  refine ⟨R, oR, rs, fun i ys H' => ((D, o) :: G3) = H' ∧ IntsAre ys (((rowsOf ns).map Rw.w).take i), rfl, .inl hoR.isL, szl (by omega), ⟨rfl, .nil⟩, fun i ys H' h => h.1 ▸ (.tail _ (sb3 _ hR)), ?_, ?_⟩
  · rintro i ys H' m' c₂ v hv ⟨rfl, hy⟩ lk
    have f₂ := lk.fn f rfl
    obtain ⟨n, hni, va, voa, t1, t2, t3, t4, t5, rfl, hva, hvo⟩ := hrs.get hv
    refine tests_nil (ift rfl ?_)
    walk_at "go"
    refine X_tup (.tail _ (sb3 _ hva)) hvo (k := 0) (j := 0) rfl rfl ?_
    refine ⟨rfl, ?_⟩
    rw [take_next (a := Rw.w n) (by rw [List.getElem?_map, hni]; rfl)]
    exact hy.append (.cons _ _ .nil)
  rintro ys6 H' a6 o6 ⟨eH6, hy6⟩ hpl6 fa6
  rw [List.take_of_length_le (by rw [List.length_map]; omega)] at hy6
  subst eH6
  walk_at "go"
  refine B_sum hh (.head _) hpl6.isL hy6 fun tw => ?_
  refine W_drop ?_
  walk_at "goe"
  refine W_know (Kn.of ?_) (h G3 C R (.ref a3) tw td te (ls.mono sb3 fr3) hrd)
  repeat (first | exact .nil | refine .cons (by rfl) ?_)
end

-- LA
/-- the sums of a column of nodes that are bounded -/
theorem nat_at {ns : List Nd} (bd : ∀ n ∈ ns, NdB n) (hl : ns.length ≤ 16) : (natF ns).n + (natF ns).dp = sumOf Rw.w (rowsOf ns) ∧ (natF ns).st = sumOf Rw.st (rowsOf ns) ∧ (natF ns).sh = sumOf Rw.sh (rowsOf ns) ∧ (0 ≤ (natF ns).wd ∧ (natF ns).wd ≤ 3) ∧ (-1 ≤ (natF ns).dp ∧ (natF ns).dp ≤ 4) ∧
    (-16000 ≤ sumOf Rw.w (rowsOf ns) ∧ sumOf Rw.w (rowsOf ns) ≤ 16000) ∧ (0 ≤ sumOf Rw.st (rowsOf ns) ∧ sumOf Rw.st (rowsOf ns) ≤ 48) ∧ (0 ≤ sumOf Rw.sh (rowsOf ns) ∧ sumOf Rw.sh (rowsOf ns) ≤ 48) := by
  obtain ⟨h1, h2, h3, h4, h5, -⟩ := nat_gen ns ⟨0, 0, 0, 0, 0⟩ bd
  have rb := rows_bd bd
  have hlen : ((rowsOf ns).length : Int) ≤ 16 := by rw [List.length_map]; omega
  have s1 := sum_bd (g := Rw.w) (lo := -1000) (hi := 1000) (rowsOf ns) fun r hr => (rb r hr).1
  have s2 := sum_bd (g := Rw.st) (lo := 0) (hi := 3) (rowsOf ns) fun r hr => (rb r hr).2.1
  have s3 := sum_bd (g := Rw.sh) (lo := 0) (hi := 3) (rowsOf ns) fun r hr => (rb r hr).2.2
  refine ⟨by unfold natF; simpa using h1, by unfold natF; simpa using h2, by unfold natF; simpa using h3, h4 (by decide), h5 (by decide), ⟨by omega, by omega⟩, ⟨by omega, by omega⟩, by omega, by omega⟩
theorem glued_case {sg u dd e st sh : Int} (hg : Glued sg u dd e st sh) (h2 : 0 < e → 0 < st) : (sg = 0 ∧ u = 0 ∧ dd = 1 ∧ e = 0) ∨ (sg = 1 ∧ u = e ∧ dd = st ∧ 0 < e ∧ 0 < st) ∨ (sg = 2 ∧ u = -e ∧ dd = sh ∧ e < 0 ∧ 0 < sh) := by
  rcases hg with ⟨a1, a2, a3, a4 | ⟨a4, a5⟩⟩ | a | a
  · exact .inl ⟨a1, a2, a3, a4⟩
  · have := h2 a4; omega
  · exact .inr (.inl a)
  · exact .inr (.inr a)
theorem glued_bd {sg u dd e st sh : Int} (hg : Glued sg u dd e st sh) (he : -1000 ≤ e ∧ e ≤ 1000) (h1 : st ≤ 48) (h2 : sh ≤ 48) : (0 < dd ∧ dd ≤ 2 ^ 60) ∧ (-(2 ^ 63) ≤ u ∧ u ≤ 2 ^ 63) ∧ (sg = 0 ∨ sg = 1 ∨ sg = 2) := by
  rcases hg with ⟨a1, a2, a3, a4⟩ | ⟨a1, a2, a3, a4⟩ | ⟨a1, a2, a3, a4⟩
  · exact ⟨by omega, by omega, .inl a1⟩
  · exact ⟨by omega, by omega, .inr (.inl a1)⟩
  · exact ⟨by omega, by omega, .inr (.inr a1)⟩
set_option maxHeartbeats 4000000
section
variable {c : Cfg} {sc : Scope} {m : Mp} {H : Led} {P : Flow → Mp → Led → Prop}
theorem law_c {D L C R sp : Addr} {o : Obj} {G : Led} {s : Sp} {ab : Int} {tb tw td te : Tok} {told : Value} {ds : List Dd} (f : Fn c (scoOf (stAt 79))) (r : Room c 20) (hh : Hn c) (ls : LS G D L C R sp s ab ds) (ht : Rd G told (.tuple ((colF s ab ds).ns.map Nd.datum)))
    (h : ∀ G', LS G' D L C R sp s ab ds → Rd G' told (.tuple ((colF s ab ds).ns.map Nd.datum)) →
      W c (exec (lawS 13) c.env) [(Str.ofString "whole", .int (sumOf Rw.w (rowsOf (colF s ab ds).ns)) tw), (Str.ofString "deep", .int (natF (colF s ab ds).ns).dp td), (Str.ofString "told", told), (Str.ofString "rows", .ref R), (Str.ofString "end", .int (colF s ab ds).ab te), (Str.ofString "column", .ref C), (Str.ofString "deeds", .ref L), (Str.ofString "above", .int ab tb), (Str.ofString "spacing", .ref sp), (Str.ofString "pool", .ref D)] ((D, o) :: G') (Seq c (lawR 14) P)) :
    W c (exec (lawS 11) c.env) [(Str.ofString "whole", .int (sumOf Rw.w (rowsOf (colF s ab ds).ns)) tw), (Str.ofString "deep", .int (natF (colF s ab ds).ns).dp td), (Str.ofString "told", told), (Str.ofString "rows", .ref R), (Str.ofString "end", .int (colF s ab ds).ab te), (Str.ofString "column", .ref C), (Str.ofString "deeds", .ref L), (Str.ofString "above", .int ab tb), (Str.ofString "spacing", .ref sp), (Str.ofString "pool", .ref D)] ((D, o) :: G) (Seq c (lawR 12) P) := by
  have ls0 := ls
  obtain ⟨fr, hs, hso, hab, hlen, hok, ⟨oL, ws, hL, hoL, hds⟩, ⟨oC, cs, hC, hoC, hcs⟩, ⟨oR, rs, hR, hoR, hrs⟩⟩ := ls
  obtain ⟨bd, bl⟩ := colF_bd (s := s) hso hab hok
  have cslen := hcs.length
  have rslen := hrs.length
  obtain ⟨n1, n2, n3, n4, n5, n6, n7, n8⟩ := nat_at bd (by omega)
  have hpl := fun sg u dd => places_eq (sg := sg) (u := u) (dd := dd) (ns := (colF s ab ds).ns) (e := 0) bd
  generalize hz : colF s ab ds = z at *
  generalize z.ns = ns at *
  have rslen2 : rs.length = (rowsOf ns).length := rslen
  have nslen : (rowsOf ns).length = ns.length := by rw [List.length_map]
  show W c (exec (.Assign _ _ _) _) _ _ (Seq c (_ :: _) P)
  walk_at "go"
  refine B_listL (.tail _ hC) hoC.isL (szl (by omega)) fun lb ob hob flb => ?_
  walk_at "go"
  refine W_swap ?_
  have fr1 := ap_cons (o := ob) (ap_in flb) fr
  refine W_frD f hh r fr1 fun c₂ f₂ r₂ hh₂ => ?_
  refine vpack1_c f₂ (r₂.le (by decide)) hh₂ (.head _) hob.isL (hcs.mono fun p hp => .tail _ hp) (by omega) (by omega) (by unfold InDim; omega) (by unfold InDim; omega) (by unfold InDim; omega) fun t ot b rv bd2 ob2 l ol H2 sg u dd t3 t4 sub ht1 hot B hl hol hg fr2 => ?_
  walk_at "go"
  refine X_tup (.tail _ ht1) hot (k := 0) (j := 0) rfl rfl ?_
  walk_at "go"
  have B0 := B
  obtain ⟨hbx, hbd, q1, q2, q3, q4, q5, q6, q7, hB⟩ := B
  walk_at "goo"
  refine N_tuple (fun tu1 ftu1 => ?_) (szl (Nat.le_of_ble_eq_true rfl))
  walk_at "goo"
  refine N_tuple (fun tu2 ftu2 => ?_) (szl (Nat.le_of_ble_eq_true rfl))
  walk_at "goo"
  have eqn : sumOf Rw.w (rowsOf ns) - (natF ns).dp = (natF ns).n := by omega
  rw [eqn]
  refine V_neSame (d := .tuple ([(natF ns).n, (natF ns).dp].map .int)) (.tuple (.tail _ (.head _)) .new (.cons .int (.cons .int .nil))) (.tuple (.head _) .new (.cons .int (.cons .int .nil))) (okD_tupI _) (by have := r.2; omega) ?_
  refine W_drop (W_drop ?_)
  walk_at "goo"
  rw [n2, n3] at hg
  have hub := glued_bd hg (by decide) n7.2 n8.2
  refine W_frD f hh r fr2 fun c₂ f₂ r₂ hh₂ => ?_
  refine places_c f₂ (r₂.le (by decide)) hh₂ B0 hl hol (sub _ (.head _)) hob.isL (hcs.mono fun p hp => sub p (.tail _ hp)) (by omega) hub.2.2 hub.1.1 hub.1.2 hub.2.1 fun a oa pw fa hoa hpw fr3 => ?_
  walk_at "goo"
  refine W_frD f hh r fr3 fun c₂ f₂ r₂ hh₂ => ?_
  have up : ∀ p ∈ G, p ∈ (a, oa) :: H2 := fun p hp => .tail _ (sub p (.tail _ hp))
  refine law_begins_c f₂ (r₂.le (by decide)) hh₂ (up _ hR) hoR.isL (hrs.mono up) (by omega) (by omega) (by omega) (by omega) fun a2 oa2 os H3 sub3 ha2 hoa2 hos fr4 => ?_
  walk_at "goo"
  have hout : (plcF sg u dd ns).out = (begF (totalOf 0 (rowsOf ns)) 0 (rowsOf ns)).out := hpl _ _ _ (glued_case hg fun h => absurd h (by decide))
  rw [hout] at hpw
  refine V_neSame (d := .list ((begF (totalOf 0 (rowsOf ns)) 0 (rowsOf ns)).out.map .int)) (.list (.tail _ (sub3 _ (.head _))) hoa.isL (hpw.mono fun p hp => .tail _ (sub3 p (.tail _ hp)))) (.list (.tail _ ha2) hoa2.isL (IntsAre.rds hos)) (okD_listI _) (by have := r.2; omega) ?_
  walk_at "goe"
  subst hz
  refine W_know (Kn.of ?_) (h H3 (ls0.mono (fun p hp => sub3 p (up p hp)) fr4) (ht.mono fun p hp => sub3 p (up p hp)))
  repeat (first | exact .nil | refine .cons (by rfl) ?_)
theorem law_e {D L C R sp : Addr} {o : Obj} {G : Led} {s : Sp} {ab e : Int} {tb tw td te tx : Tok} {told : Value} {ds : List Dd} (f : Fn c (scoOf (stAt 79))) (r : Room c 20) (hh : Hn c) (ls : LS G D L C R sp s ab ds) (ht : Rd G told (.tuple ((colF s ab ds).ns.map Nd.datum))) (he : -1000 ≤ e ∧ e ≤ 1000) (he1 : e < 0 → -e ≤ sumOf Rw.sh (rowsOf (colF s ab ds).ns)) (he2 : 0 < e → 0 < sumOf Rw.st (rowsOf (colF s ab ds).ns))
    (h : ∀ G', LS G' D L C R sp s ab ds → Rd G' told (.tuple ((colF s ab ds).ns.map Nd.datum)) →
      W c (exec (lawS 18) c.env) [(Str.ofString "told", told), (Str.ofString "end", .int (colF s ab ds).ab te), (Str.ofString "column", .ref C), (Str.ofString "deeds", .ref L), (Str.ofString "above", .int ab tb), (Str.ofString "spacing", .ref sp), (Str.ofString "pool", .ref D)] ((D, o) :: G') (Seq c (lawR 19) P)) :
    W c (exec (lawS 16) c.env) [(Str.ofString "excess", .int e tx), (Str.ofString "whole", .int (sumOf Rw.w (rowsOf (colF s ab ds).ns)) tw), (Str.ofString "deep", .int (natF (colF s ab ds).ns).dp td), (Str.ofString "told", told), (Str.ofString "rows", .ref R), (Str.ofString "end", .int (colF s ab ds).ab te), (Str.ofString "column", .ref C), (Str.ofString "deeds", .ref L), (Str.ofString "above", .int ab tb), (Str.ofString "spacing", .ref sp), (Str.ofString "pool", .ref D)] ((D, o) :: G) (Seq c (lawR 17) P) := by
  have ls0 := ls
  obtain ⟨fr, hs, hso, hab, hlen, hok, ⟨oL, ws, hL, hoL, hds⟩, ⟨oC, cs, hC, hoC, hcs⟩, ⟨oR, rs, hR, hoR, hrs⟩⟩ := ls
  obtain ⟨bd, bl⟩ := colF_bd (s := s) hso hab hok
  have cslen := hcs.length
  have rslen := hrs.length
  obtain ⟨n1, n2, n3, n4, n5, n6, n7, n8⟩ := nat_at bd (by omega)
  have hpl := fun sg u dd => places_eq (sg := sg) (u := u) (dd := dd) (ns := (colF s ab ds).ns) (e := e) bd
  generalize hz : colF s ab ds = z at *
  generalize z.ns = ns at *
  have rslen2 : rs.length = (rowsOf ns).length := rslen
  have nslen : (rowsOf ns).length = ns.length := by rw [List.length_map]
  show W c (exec (.Assign _ _ _) _) _ _ (Seq c (_ :: _) P)
  walk_at "go"
  refine B_listL (.tail _ hC) hoC.isL (szl (by omega)) fun lb ob hob flb => ?_
  walk_at "go"
  refine W_swap ?_
  have fr1 := ap_cons (o := ob) (ap_in flb) fr
  rename_i tq
  walk_at "go"
  refine W_frD f hh r fr1 fun c₂ f₂ r₂ hh₂ => ?_
  refine vpack3_c (e := e) f₂ (r₂.le (by decide)) hh₂ (.head _) hob.isL (hcs.mono fun p hp => .tail _ hp) (by unfold InDim; omega) (by omega) (by omega) (by omega) (by omega) (by omega) (by unfold InDim; omega) (by unfold InDim; omega) fun t ot b rv bd2 ob2 l ol H2 sg u dd t3 t4 sub ht1 hot B hl hol hg fr2 => ?_
  walk_at "go"
  refine X_tup (.tail _ ht1) hot (k := 0) (j := 0) rfl rfl ?_
  walk_at "go"
  have B0 := B
  obtain ⟨hbx, hbd, q1, q2, q3, q4, q5, q6, q7, hB⟩ := B
  walk_at "goo"
  refine N_tuple (fun tu1 ftu1 => ?_) (szl (Nat.le_of_ble_eq_true rfl))
  walk_at "goo"
  refine N_tuple (fun tu2 ftu2 => ?_) (szl (Nat.le_of_ble_eq_true rfl))
  walk_at "goo"
  refine V_neSame (d := .tuple ([sumOf Rw.w (rowsOf ns) - (natF ns).dp + e, (natF ns).dp].map .int)) (.tuple (.tail _ (.head _)) .new (.cons .int (.cons .int .nil))) (.tuple (.head _) .new (.cons .int (.cons .int .nil))) (okD_tupI _) (by have := r.2; omega) ?_
  refine W_drop (W_drop ?_)
  walk_at "goo"
  rw [n2, n3] at hg
  have hub := glued_bd hg he n7.2 n8.2
  refine W_frD f hh r fr2 fun c₂ f₂ r₂ hh₂ => ?_
  refine places_c f₂ (r₂.le (by decide)) hh₂ B0 hl hol (sub _ (.head _)) hob.isL (hcs.mono fun p hp => sub p (.tail _ hp)) (by omega) hub.2.2 hub.1.1 hub.1.2 hub.2.1 fun a oa pw fa hoa hpw fr3 => ?_
  walk_at "goo"
  refine W_frD f hh r fr3 fun c₂ f₂ r₂ hh₂ => ?_
  have up : ∀ p ∈ G, p ∈ (a, oa) :: H2 := fun p hp => .tail _ (sub p (.tail _ hp))
  refine law_begins_c f₂ (r₂.le (by decide)) hh₂ (up _ hR) hoR.isL (hrs.mono up) (by omega) (by omega) (by omega) (by omega) fun a2 oa2 os H3 sub3 ha2 hoa2 hos fr4 => ?_
  walk_at "goo"
  have hout : (plcF sg u dd ns).out = (begF (totalOf e (rowsOf ns)) e (rowsOf ns)).out := hpl _ _ _ (glued_case hg he2)
  rw [hout] at hpw
  refine V_neSame (d := .list ((begF (totalOf e (rowsOf ns)) e (rowsOf ns)).out.map .int)) (.list (.tail _ (sub3 _ (.head _))) hoa.isL (hpw.mono fun p hp => .tail _ (sub3 p (.tail _ hp)))) (.list (.tail _ ha2) hoa2.isL (IntsAre.rds hos)) (okD_listI _) (by have := r.2; omega) ?_
  walk_at "goe"
  subst hz
  refine W_know (Kn.of ?_) (h H3 (ls0.mono (fun p hp => sub3 p (up p hp)) fr4) (ht.mono fun p hp => sub3 p (up p hp)))
  repeat (first | exact .nil | refine .cons (by rfl) ?_)
end

-- LB
set_option maxHeartbeats 4000000
section
variable {c : Cfg} {sc : Scope} {m : Mp} {H : Led} {P : Flow → Mp → Led → Prop}
theorem law_d {D L C R sp : Addr} {o : Obj} {G : Led} {s : Sp} {ab : Int} {tb tw td te : Tok} {told : Value} {ds : List Dd} (f : Fn c (scoOf (stAt 79))) (r : Room c 20) (hh : Hn c) (hp : PoolOk o 40) (ls : LS G D L C R sp s ab ds) (ht : Rd G told (.tuple ((colF s ab ds).ns.map Nd.datum)))
    (h : ∀ o' e tx, PoolOk o' 41 → -1000 ≤ e ∧ e ≤ 1000 → (e < 0 → -e ≤ sumOf Rw.sh (rowsOf (colF s ab ds).ns)) → (0 < e → 0 < sumOf Rw.st (rowsOf (colF s ab ds).ns)) →
      W c (exec (lawS 16) c.env) [(Str.ofString "excess", .int e tx), (Str.ofString "whole", .int (sumOf Rw.w (rowsOf (colF s ab ds).ns)) tw), (Str.ofString "deep", .int (natF (colF s ab ds).ns).dp td), (Str.ofString "told", told), (Str.ofString "rows", .ref R), (Str.ofString "end", .int (colF s ab ds).ab te), (Str.ofString "column", .ref C), (Str.ofString "deeds", .ref L), (Str.ofString "above", .int ab tb), (Str.ofString "spacing", .ref sp), (Str.ofString "pool", .ref D)] ((D, o') :: G) (Seq c (lawR 17) P)) :
    W c (exec (lawS 13) c.env) [(Str.ofString "whole", .int (sumOf Rw.w (rowsOf (colF s ab ds).ns)) tw), (Str.ofString "deep", .int (natF (colF s ab ds).ns).dp td), (Str.ofString "told", told), (Str.ofString "rows", .ref R), (Str.ofString "end", .int (colF s ab ds).ab te), (Str.ofString "column", .ref C), (Str.ofString "deeds", .ref L), (Str.ofString "above", .int ab tb), (Str.ofString "spacing", .ref sp), (Str.ofString "pool", .ref D)] ((D, o) :: G) (Seq c (lawR 14) P) := by
  have ls0 := ls
  obtain ⟨fr, hs, hso, hab, hlen, hok, ⟨oL, ws, hL, hoL, hds⟩, ⟨oC, cs, hC, hoC, hcs⟩, ⟨oR, rs, hR, hoR, hrs⟩⟩ := ls
  obtain ⟨bd, bl⟩ := colF_bd (s := s) hso hab hok
  have rslen := hrs.length
  obtain ⟨n1, n2, n3, n4, n5, n6, n7, n8⟩ := nat_at bd (by omega)
  generalize hz : colF s ab ds = z at *
  generalize z.ns = ns at *
  have rslen2 : rs.length = (rowsOf ns).length := rslen
  have nslen : (rowsOf ns).length = ns.length := by rw [List.length_map]
  show W c (exec (.Assign _ _ _) _) _ _ (Seq c (_ :: _) P)
  walk_at "go"
  refine N_list (fun l1 fl1 => ?_) (szl (Nat.le_of_ble_eq_true rfl))
  walk_at "go"
  refine W_swap ?_
  refine law_take_c f (r.le (by decide)) hp (by decide) (by decide) (by decide) (ap_cons (ap_in fl1) fr) fun o1 k1 t1 hp1 k10 k11 => ?_
  refine X_pick (fun e => -3 ≤ e ∧ e ≤ 41) (.tail _ (.head _)) .new k10 k11 ?_ (fun e te2 he => ?_) (by omega)
  · intro v hv
    simp only [List.mem_cons, List.not_mem_nil, or_false] at hv
    rcases hv with h | h | h | h | h | h | h | h | h <;> exact ⟨_, _, h, by decide⟩
  refine W_drop2 ?_
  walk_at "go"
  refine W_comp (cl := []) f (by with_unfolding_all rfl) (by decide) rfl (by decide) (by rfl) ?_
  walk_at "go"
  refine ⟨R, oR, rs, fun i ys H' => ((D, o1) :: G) = H' ∧ IntsAre ys (((rowsOf ns).map Rw.sh).take i), rfl, .inl hoR.isL, szl (by omega), ⟨rfl, .nil⟩, fun i ys H' h => h.1 ▸ (.tail _ hR), ?_, ?_⟩
  · rintro i ys H' m' c₂ v hv ⟨rfl, hy⟩ lk
    have f₂ := lk.fn f rfl
    obtain ⟨n, hni, va, voa, t1, t2, t3, t4, t5, rfl, hva, hvo⟩ := hrs.get hv
    refine tests_nil (ift rfl ?_)
    walk_at "go"
    refine X_tup (.tail _ hva) hvo (k := 2) (j := 2) rfl rfl ?_
    refine ⟨rfl, ?_⟩
    rw [take_next (a := Rw.sh n) (by rw [List.getElem?_map, hni]; rfl)]
    exact hy.append (.cons _ _ .nil)
  rintro ys2 H' a2 o2 ⟨eH2, hy2⟩ hpl2 fa2
  rw [List.take_of_length_le (by rw [List.length_map]; omega)] at hy2
  subst eH2
  walk_at "go"
  refine B_sum hh (.head _) hpl2.isL hy2 fun u2 => ?_
  refine W_drop ?_
  have esh : ((rowsOf ns).map Rw.sh).sum = sumOf Rw.sh (rowsOf ns) := rfl
  rw [esh]
  walk_at "go"
  rename_i tx2 tq2
  have hm2 : -3 ≤ max e (-(sumOf Rw.sh (rowsOf ns))) ∧ max e (-(sumOf Rw.sh (rowsOf ns))) ≤ 41 ∧ -(sumOf Rw.sh (rowsOf ns)) ≤ max e (-(sumOf Rw.sh (rowsOf ns))) := by omega
  generalize max e (-(sumOf Rw.sh (rowsOf ns))) = e2 at *
  by_cases h0 : 0 < e2
  · walk_at "go"
    refine W_comp (cl := []) f (by with_unfolding_all rfl) (by decide) rfl (by decide) (by rfl) ?_
    walk_at "go"
    refine ⟨R, oR, rs, fun i ys H' => ((D, o1) :: G) = H' ∧ IntsAre ys (((rowsOf ns).map Rw.st).take i), rfl, .inl hoR.isL, szl (by omega), ⟨rfl, .nil⟩, fun i ys H' h => h.1 ▸ (.tail _ hR), ?_, ?_⟩
    · rintro i ys H' m' c₂ v hv ⟨rfl, hy⟩ lk
      have f₂ := lk.fn f rfl
      obtain ⟨n, hni, va, voa, t1, t2, t3, t4, t5, rfl, hva, hvo⟩ := hrs.get hv
      refine tests_nil (ift rfl ?_)
      walk_at "go"
      refine X_tup (.tail _ hva) hvo (k := 1) (j := 1) rfl rfl ?_
      refine ⟨rfl, ?_⟩
      rw [take_next (a := Rw.st n) (by rw [List.getElem?_map, hni]; rfl)]
      exact hy.append (.cons _ _ .nil)
    rintro ys3 H' a3 o3 ⟨eH3, hy3⟩ hpl3 fa3
    rw [List.take_of_length_le (by rw [List.length_map]; omega)] at hy3
    subst eH3
    walk_at "go"
    refine B_sum hh (.head _) hpl3.isL hy3 fun u3 => ?_
    refine W_drop ?_
    have est : ((rowsOf ns).map Rw.st).sum = sumOf Rw.st (rowsOf ns) := rfl
    rw [est]
    by_cases h1 : sumOf Rw.st (rowsOf ns) = 0
    · rw [h1]
      walk_at "goe"
      walk_at "ms"
      walk_at "goe"
      rename_i tx
      refine W_know (Kn.of ?_) (h o1 0 tx (by obtain ⟨x, y, a, b, q1, q2, q3, q4⟩ := hp1; exact ⟨x, y, a, b, q1, q2, q3, by omega⟩) (by omega) (by omega) (by omega))
      repeat (first | exact .nil | refine .cons (by rfl) ?_)
    · walk_at "goe"
      refine W_know (Kn.of ?_) (h o1 e2 tx2 (by obtain ⟨x, y, a, b, q1, q2, q3, q4⟩ := hp1; exact ⟨x, y, a, b, q1, q2, q3, by omega⟩) (by omega) (by omega) (by omega))
      repeat (first | exact .nil | refine .cons (by rfl) ?_)
  · walk_at "goe"
    refine W_know (Kn.of ?_) (h o1 e2 tx2 (by obtain ⟨x, y, a, b, q1, q2, q3, q4⟩ := hp1; exact ⟨x, y, a, b, q1, q2, q3, by omega⟩) (by omega) (by omega) (by omega))
    repeat (first | exact .nil | refine .cons (by rfl) ?_)
end

-- LC
set_option maxHeartbeats 4000000
section
variable {c : Cfg} {sc : Scope} {m : Mp} {H : Led} {P : Flow → Mp → Led → Prop}
theorem law_f {D L C R sp : Addr} {o : Obj} {G : Led} {s : Sp} {ab : Int} {tb te : Tok} {told : Value} {ds : List Dd} (f : Fn c (scoOf (stAt 79))) (r : Room c 22) (hh : Hn c) (frames : c.A.frames = some [c.env]) (hcf : c.env.frame = some c.L) (hFR : c.FR = []) (hp : PoolOk o 41) (ls : LS G D L C R sp s ab ds)
    (ht : Rd G told (.tuple ((colF s ab ds).ns.map Nd.datum))) (h : ∀ m' H', P (.ret (.bool true)) m' H') :
    W c (exec (lawS 18) c.env) [(Str.ofString "told", told), (Str.ofString "end", .int (colF s ab ds).ab te), (Str.ofString "column", .ref C), (Str.ofString "deeds", .ref L), (Str.ofString "above", .int ab tb), (Str.ofString "spacing", .ref sp), (Str.ofString "pool", .ref D)] ((D, o) :: G) (Seq c (lawR 19) P) := by
  obtain ⟨fr, hs, hso, hab, hlen, hok, ⟨oL, ws, hL, hoL, hds⟩, ⟨oC, cs, hC, hoC, hcs⟩, ⟨oR, rs, hR, hoR, hrs⟩⟩ := ls
  have wl := hds.length
  show W c (exec (.Assign _ _ _) _) _ _ (Seq c (_ :: _) P)
  walk_at "gos"
  refine B_len (.tail _ hL) hoL.isL (by omega) fun t1 => ?_
  walk_at "gos"
  refine law_take_c f (r.le (by decide)) hp (by decide) (by omega) (by omega) fr fun o1 k t2 hp1 k0 k1 => ?_
  obtain ⟨N, rfl⟩ : ∃ N : Nat, k = (N : Int) := ⟨k.toNat, by omega⟩
  walk_at "gos"
  refine S_assignT ?_ (by with_unfolding_all rfl) (by rw [sw_scope f.scope]; kernel_rfl)
  walk_at "gos"
  refine W_sliceTo ?_
  walk_at "gos"
  refine ⟨L, ws, N, _, rfl, .inl ⟨oL, .tail _ hL, hoL.isL⟩, szl (by omega), rfl, fun b1 fb1 => ?_⟩
  walk_at "gos"
  refine W_swap ?_
  have fr1 := ap_cons (o := listOf (ws.take N).toArray 0) (ap_in fb1) fr
  refine W_frD f hh r fr1 fun c₂ f₂ r₂ hh₂ => ?_
  have ok1 : ∀ d ∈ ds.take N, d.ok := fun d hd => hok d (List.mem_of_mem_take hd)
  have ok2 : ∀ d ∈ ds.drop N, d.ok := fun d hd => hok d (List.mem_of_mem_drop hd)
  have up1 : ∀ p ∈ G, p ∈ (b1, listOf (ws.take N).toArray 0) :: G := fun p hp => .tail _ hp
  refine law_column_c f₂ (r₂.le (by decide)) hh₂ (.head _) .new ((hds.mono up1).take N) (by rw [List.length_take]; omega) ok1 (hs.mono up1) hso hab fun u1 C1 oC1 cs1 te1 G1 sb1 hC1 hoC1 hcs1 hu1 fr2 => ?_
  refine A_tup hh (.tail _ hu1) .new rfl ?_
  show W _ (assignInOrder [assign (.Name _ _) c.env, assign (.Name _ _) c.env, assign (.Name _ _) c.env] _) _ _ _
  walk_at "gos"
  refine S_assignT ?_ (by with_unfolding_all rfl) (by rw [sw_scope f.scope]; kernel_rfl)
  walk_at "gos"
  refine W_sliceFrom ?_
  walk_at "gos"
  have up2 : ∀ p ∈ G, p ∈ G1 := fun p hp => sb1 p (up1 p hp)
  refine ⟨L, ws, N, _, rfl, .inl ⟨oL, .tail _ (up2 _ hL), hoL.isL⟩, szl (by omega), rfl, fun b2 fb2 => ?_⟩
  walk_at "gos"
  refine W_swap ?_
  have fr3 := ap_cons (o := listOf (ws.drop N).toArray 0) (ap_in fb2) fr2
  have up3 : ∀ p ∈ G, p ∈ (b2, listOf (ws.drop N).toArray 0) :: G1 := fun p hp => .tail _ (up2 p hp)
  have hab1 := colF_ab (s := s) hab ok1
  refine W_frD f hh r fr3 fun c₂ f₂ r₂ hh₂ => ?_
  refine law_column_c f₂ (r₂.le (by decide)) hh₂ (.head _) .new ((hds.mono up3).drop N) (by rw [List.length_drop]; omega) ok2 (hs.mono up3) hso hab1 fun u2 C2 oC2 cs2 te2 G2 sb2 hC2 hoC2 hcs2 hu2 fr4 => ?_
  refine A_tup hh (.tail _ hu2) .new rfl ?_
  show W _ (assignInOrder [assign (.Name _ _) c.env, assign (.Name _ _) c.env, assign (.Name _ _) c.env] _) _ _ _
  have ap := colF_append (s := s) (ab := ab) (d1 := ds.take N) (d2 := ds.drop N)
  rw [List.take_append_drop] at ap
  have apa := congrArg CS.ab ap
  have apn := congrArg CS.ns ap
  dsimp only at apa apn
  rw [apa]
  walk_at "gos"
  refine iff' (by simp) ?_
  walk_at "gos"
  have sb3 : ∀ p ∈ G1, p ∈ G2 := fun p hp => sb2 p (.tail _ hp)
  have up4 : ∀ p ∈ G, p ∈ G2 := fun p hp => sb3 p (up2 p hp)
  obtain ⟨bd, bl⟩ := colF_bd (s := s) hso hab hok
  have ln := congrArg (fun z => z.ns.length) ap
  simp only [List.length_append] at ln
  have c1l := hcs1.length
  have c2l := hcs2.length
  have csl := hcs.length
  refine V_addL (.tail _ (sb3 _ hC1)) hoC1.isL (.tail _ hC2) hoC2.isL (by rw [sizeLine_eq]; omega) fun d1 fd1 => ?_
  walk_at "gos"
  refine W_swap ?_
  refine W_frD f hh r (ap_cons (ap_in fd1) fr4) fun c₂ f₂ r₂ hh₂ => ?_
  refine dl_c f₂ (r₂.le (by decide)) (.head _) .new (((hcs1.mono sb3).append hcs2).mono fun p hp => .tail _ hp) (by rw [List.length_append]; omega) fun a3 G3 sb4 hrd fr5 => ?_
  walk_at "gos"
  have up5 : ∀ p ∈ G, p ∈ (D, o1) :: G3 := fun p hp => .tail _ (sb4 p (.tail _ (up4 p hp)))
  rw [apn] at ht
  refine V_neSame (hrd.mono fun p hp => .tail _ hp) (ht.mono up5) (okD_datums _) (by have := r.2; omega) ?_
  walk_at "gos"
  refine law_refused_c f (r.le (by decide)) hh frames hcf hFR (up5 _ hC) hoC.isL (hcs.mono up5) (by omega) (hs.mono up5) hso (okD_datums _) fun H6 sb6 => ?_
  walk_at "gos"
  refine dl_c f (r.le (by decide)) (sb6 _ (up5 _ hC)) hoC.isL (hcs.mono fun p hp => sb6 p (up5 p hp)) (by omega) fun a7 H7 sb7 hrd7 => ?_
  walk_at "gos"
  rw [apn] at hrd7
  refine V_eqSame hrd7 (ht.mono fun p hp => sb7 p (sb6 p (up5 p hp))) (okD_datums _) (by have := r.2; omega) ?_
  walk_at "gos"
  exact h _ _
/-- the law's body gives True -/
theorem law_body {S : Addr} {vs : List Value} (f : Fn c (scoOf (stAt 79))) (r : Room c 30) (hh : Hn c) (frames : c.A.frames = some [c.env]) (hcf : c.env.frame = some c.L) (hFR : c.FR = []) (hs : LstAt c H S vs) (hi : ∀ v ∈ vs, ∃ x t, v = .int x t) (hz : vs.length ≤ 1000) (h : ∀ m' H', P (.ret (.bool true)) m' H') :
    W c (execs (bodOf (stAt 79)) c.env) [(Str.ofString "script", .ref S)] H P :=
  law_a f (r.le (by decide)) hh hs hi hz fun D o G sp s ab tb L oL ws ds hp fr hsp hso hab hL hoL hds l1 l2 hok =>
    law_b f (r.le (by decide)) hh hp fr hsp hso hab hL hoL hds l1 l2 hok fun G1 C R told tw td te ls ht =>
      law_c f (r.le (by decide)) hh ls ht fun G2 ls2 ht2 =>
        law_d f (r.le (by decide)) hh hp ls2 ht2 fun o' e tx hp2 he he1 he2 =>
          law_e f (r.le (by decide)) hh ls2 ht2 he he1 he2 fun G3 ls3 ht3 => law_f f (r.le (by decide)) hh frames hcf hFR hp2 ls3 ht3 h
end

-- LE
theorem enter_law {prog : Program} {w : World} {s : Shared} {S : Addr} {its : Array Value} {R : Result → Shared → Prop} (k : Ok w s.heap) (hS : s.heap.IsList S its) (hi : ∀ v ∈ its.toList, ∃ x t, v = .int x t) (hz : its.toList.length ≤ 1000)
    (hR : ∀ s', (∀ b o, s.heap.get? b = some o → s'.heap.get? b = some o) → s'.gens = s.gens → s'.os = s.os → R (.ok (.ret (.bool true))) s') : codeAny (model prog w) callerA (.call (.ref 647) ⟨[.ref S], []⟩) R s := by
  have X := k.X
  refine codeAny_call_def (fd := fd_law) (body := bodOf (stAt 79)) (binds := [(Str.ofString "script", .ref S)]) (by decide) (X 647 ⟨.type "function", none, .func fd_law, #[]⟩ (by kernel_rfl)) rfl k.lim (codeRec_of X (by kernel_rfl)) rfl (BindsTo.of_eq (by kernel_rfl)) (by decide +kernel) (locs (by kernel_rfl)) (fun h₁ hns hk₁ => ?_) (by kernel_rfl) (by kernel_rfl) (by kernel_rfl)
  let env' := callEnv fd_law s.heap.objs.size 647
  let c : Cfg := { prog := prog, w := w, A := callerA.deeper env', E := fun e s' => wpAny (model prog w) (callerA.deeper env') (leaving env' e) (fun _ s'' => R (.error e) s'') (fun e' s'' => R (.error e') s'') s', h₀ := s.heap, FR := [], env := env', gens := s.gens, drawn := s.drawn, os := s.os }
  have I : Inv c [(Str.ofString "script", .ref S)] [] { s with heap := h₁, toks := s.toks + 1 } :=
    ⟨rfl, rfl, rfl, ⟨_, ⟨hns, hk₁, Nat.le_refl _⟩, fun _ _ e => e⟩, fun p hp => (by cases hp), fun p hp => (by cases hp)⟩
  have f : Fn c (scoOf (stAt 79)) := ⟨rfl, by kernel_rfl, rfl, rfl, k, .inl rfl⟩
  have r : Room c 30 := ⟨by show callerA.depth + 1 + 30 < _; decide, by show callerA.units + 3 + 4 * 30 < _; decide⟩
  have W0 := law_body (c := c) (H := []) (P := fun fl _ _ => fl = .ret (.bool true)) (S := S) (vs := its.toList) f r rfl rfl rfl rfl (.inr (by simpa using hS)) hi hz fun _ _ => rfl
  refine wpAny_mono (W0 _ I) (fun fl s' ⟨m', H', J, p⟩ => ?_) fun _ _ e => e
  subst p
  exact hR s' J.F.keep J.gens J.os

-- LF
theorem lookup_all {α β : Type} [BEq α] [LawfulBEq α] {f : α → Option β} : ∀ {l : List (α × β)}, l.map (fun p => f p.1) = l.map (fun p => some p.2) → ∀ x v, l.lookup x = some v → f x = some v
  | [], _, _, _, e => nomatch e
  | (a, b) :: l, h, x, v, e => by
    simp only [List.map_cons, List.cons.injEq] at h
    rw [List.lookup_cons] at e
    by_cases q : x = a
    · subst q; simp at e; subst e; exact h.1
    · rw [beq_false_of_ne q] at e; exact lookup_all h.2 x v e
theorem blt_boot : bltTab.map (fun p => bootBuiltins p.1) = bltTab.map (fun p => some p.2) := by kernel_rfl
theorem blt_name : (bltTab.lookup (Str.ofString "__name__")) = none := by kernel_rfl
theorem end_law {K : Params → Frag} (hK : ∀ P, (kk P).map (fun p => (K P).lookup p.1) = (kk P).map fun p => some p.2) {p prog : Program} {loose : List Str} {mean : ExcName → Option Value} {mg mb : Str → Option Value} {w : World} {s : Shared} {fa S : Addr} {vs : List Value} {ns : List Int} {R : Result → Shared → Prop}
    (KX : (K w.params).In s.heap) (T : Top p loose mean mg mb s.heap) (hmg : mg (Str.ofString "law") = some (.ref fa)) (hS : s.heap.IsList S vs.toArray) (hI : IntsAre vs ns) (hn : ¬ (63 : Int) < (ns.length : Int))
    (hR : ∀ s', (∀ b o, s.heap.get? b = some o → s'.heap.get? b = some o) → s'.gens = s.gens → s'.os = s.os → R (.ok (.ret (.bool true))) s') : codeAny (model prog w) callerA (.call (.ref fa) ⟨[.ref S], []⟩) R s := by
  have X : (kk w.params).In s.heap := fun a o e => KX a o (lookup_all (f := fun a => (K w.params).lookup a) (hK w.params) a o e)
  have ok : Ok w s.heap := ⟨X, T.nolimit, ⟨mg, T.g⟩, mb, T.b, fun x v e => (T.builtins x fun q => by rw [q] at e; exact absurd e (by rw [show ("__name__" : Str) = Str.ofString "__name__" from rfl, blt_name]; simp)).trans (lookup_all (f := bootBuiltins) blt_boot x v e)⟩
  have e1 : mg (Str.ofString "law") = some (.ref 647) := mg_of X T.g g_law
  rw [hmg] at e1
  obtain rfl : fa = 647 := by simpa using e1
  refine enter_law ok hS (fun v hv => ?_) (by have := intsLen hI; simp; omega) hR
  have : ∀ {vs : List Value} {ns : List Int}, IntsAre vs ns → ∀ v ∈ vs, ∃ x t, v = .int x t := by
    intro vs ns h
    induction h with
    | nil => intro v hv; cases hv
    | cons n t _ ih =>
      intro v hv
      rcases List.mem_cons.mp hv with rfl | hv
      · exact ⟨n, t, rfl⟩
      · exact ih v hv
  exact this hI v (by simpa using hv)

section
set_option maxHeartbeats 80000000
theorem hd.tw10458740792067480800 : True := trivial
theorem hd.tw2480057099694739299 : True := trivial
theorem hd.tw9499510787657705874 : True := trivial
theorem hd.tw15643275761693703936 : True := trivial
theorem hd.tw2608437505485318709 : True := trivial
theorem hd.tw2252305205657439004 : True := trivial
theorem hd.tw11117797201346649052 : True := trivial
theorem hd.tw15790720579355451973 : True := trivial
theorem hd.tw2887051446865420828 : True := trivial
theorem hd.tw9398405308114057262 : True := trivial
theorem hd.tw8977307856219701671 : True := trivial
theorem hd.tw12112201142124510154 : True := trivial
theorem hd.tw3434918251397683217 : True := trivial
theorem hd.tw6407587892757256292 : True := trivial
theorem hd.tw17007115810718279150 : True := trivial
theorem hd.tw1865391376527767206 : True := trivial
theorem hd.tw4494801613693538912 : True := trivial
theorem hd.tw9013056391748086436 : True := trivial
theorem hd.tw13790719812936386609 : True := trivial
theorem hd.tw16970440968685349367 : True := trivial
theorem hd.tw7085514621470718492 : True := trivial
theorem hd.tw15910714762333108613 : True := trivial
theorem hd.tw8381844023166312768 : True := trivial
theorem hd.tw7880807054014371918 : True := trivial
theorem hd.tw9741134391959003819 : True := trivial
theorem hd.tw9731375825926819010 : True := trivial
theorem hd.tw6320253292602491972 : True := trivial
theorem hd.tw8228950375871286339 : True := trivial
theorem hd.tw7292484366425897655 : True := trivial
theorem hd.tw10727248033764811480 : True := trivial
theorem hd.tw15508949281206285077 : True := trivial
theorem hd.tw16357263729072622229 : True := trivial
theorem hd.tw16694946328126371552 : True := trivial
theorem hd.tw8184699220007379433 : True := trivial
theorem hd.tw8887101221731976242 : True := trivial
theorem hd.tw7379015992945566340 : True := trivial
theorem hd.tw12414669353804360901 : True := trivial
theorem hd.tw11249132867342737325 : True := trivial
theorem hd.tw6060742912462422084 : True := trivial
theorem hd.tw7317836474542784337 : True := trivial
theorem hd.tw4159134105002834734 : True := trivial
theorem hd.tw2930668341846507884 : True := trivial
theorem hd.tw14896477498954680388 : True := trivial
theorem hd.tw4846842124234013525 : True := trivial
theorem hd.tw9577689765879766989 : True := trivial
theorem hd.tw5366084841770067474 : True := trivial
theorem hd.tw15463257786427224491 : True := trivial
theorem hd.tw9427301549700849589 : True := trivial
theorem hd.tw14960593345356199642 : True := trivial
theorem hd.tw15615537253650120727 : True := trivial
theorem hd.tw18268791191939849864 : True := trivial
theorem hd.tw7582013449568394955 : True := trivial
theorem hd.tw14176624398918483544 : True := trivial
theorem hd.tw7914949630228597729 : True := trivial
theorem hd.tw15852365999677673905 : True := trivial
theorem hd.tw11128854368766332075 : True := trivial
theorem hd.tw6627881031435992008 : True := trivial
theorem hd.tw17070941380808615275 : True := trivial
theorem hd.tw6785817131721698500 : True := trivial
theorem hd.tw667777408057656426 : True := trivial
theorem hd.tw17599816209265215132 : True := trivial
theorem hd.tw395138700845864316 : True := trivial
theorem hd.tw15220180469806662145 : True := trivial
theorem hd.tw8015326511298524721 : True := trivial
theorem hd.tw6082411064634330575 : True := trivial
theorem hd.tw15967140613478806237 : True := trivial
theorem hd.tw18343703819029505601 : True := trivial
theorem hd.tw12591134339009171964 : True := trivial
theorem hd.tw6291416237084387574 : True := trivial
theorem hd.tw8789358453043137523 : True := trivial
theorem hd.tw11232374478483605306 : True := trivial
theorem hd.tw16299908979028503884 : True := trivial
theorem hd.tw11709330566771433103 : True := trivial
theorem hd.tw9908193460736022307 : True := trivial
theorem hd.tw9132557439983319658 : True := trivial
theorem hd.tw2380272775587480882 : True := trivial
theorem hd.tw13409441903868389331 : True := trivial
theorem hd.tw5282504435634884242 : True := trivial
theorem hd.tw5247051413645994129 : True := trivial
theorem hd.tw13483081372092288885 : True := trivial
theorem hd.tw17491280204586788870 : True := trivial
theorem hd.tw11034497122203965937 : True := trivial
theorem hd.tw5608270528595127837 : True := trivial
theorem hd.tw10879034167726328663 : True := trivial
theorem hd.tw10919297434634762262 : True := trivial
theorem hd.tw4367231431732253908 : True := trivial
theorem hd.tw5373601922739893978 : True := trivial
theorem hd.tw14745743045033390146 : True := trivial
theorem hd.tw18293851220164018083 : True := trivial
theorem hd.tw5283464899586487735 : True := trivial
theorem hd.tw6804821044290156842 : True := trivial
theorem hd.tw2167537188350426706 : True := trivial
theorem hd.tw16006246977917349235 : True := trivial
theorem hd.tw7943647380988272828 : True := trivial
theorem hd.tw7891253978561527248 : True := trivial
theorem hd.tw10860895700388868024 : True := trivial
theorem hd.tw12647368939536790636 : True := trivial
theorem hd.tw15813434630575017362 : True := trivial
theorem hd.tw3309697970292668127 : True := trivial
theorem hd.tw1452849714261714991 : True := trivial
theorem hd.tw10949625832625181284 : True := trivial
theorem hd.tw5343241284826551009 : True := trivial
theorem hd.tw5318216170032084099 : True := trivial
theorem hd.tw17447410573909459338 : True := trivial
theorem hd.tw7793673504863384051 : True := trivial
theorem hd.tw13566260322249332789 : True := trivial
theorem hd.tw11465210709893060100 : True := trivial
theorem hd.tw1954109241102656831 : True := trivial
theorem hd.tw7270182246851987180 : True := trivial
theorem hd.tw15642763164714097627 : True := trivial
theorem hd.tw5978321128707920903 : True := trivial
theorem hd.tw22551697357593593 : True := trivial
theorem hd.tw3085183777334472315 : True := trivial
theorem hd.tw13372043803930879067 : True := trivial
theorem hd.tw3381375190539634487 : True := trivial
theorem hd.tw10905682514733158466 : True := trivial
theorem hd.tw9153386212771759811 : True := trivial
theorem hd.tw11319097763535126812 : True := trivial
theorem hd.tw15422856539912107476 : True := trivial
theorem hd.tw9641152695372364146 : True := trivial
theorem hd.tw9557236495431379559 : True := trivial
theorem hd.tw15043168886218598503 : True := trivial
theorem hd.tw17588044629489971554 : True := trivial
theorem hd.tw6882427118574961969 : True := trivial
theorem hd.tw2867327485932766208 : True := trivial
theorem hd.tw4870687313549177768 : True := trivial
theorem hd.tw1011335219593555734 : True := trivial
theorem hd.tw15367242080415987702 : True := trivial
theorem hd.tw10601615944963115059 : True := trivial
theorem hd.tw13893168526513508166 : True := trivial
theorem hd.tw13038990169509382042 : True := trivial
theorem hd.tw16155205043701107222 : True := trivial
theorem hd.tw5629675986466331604 : True := trivial
theorem hd.tw14103535550066685397 : True := trivial
theorem hd.tw9566141503761928105 : True := trivial
theorem hd.tw1147470481896660410 : True := trivial
theorem hd.tw1588505670450824345 : True := trivial
theorem hd.tw17843490464661113860 : True := trivial
theorem hd.tw17714235663813219645 : True := trivial
theorem hd.tw6982297934935202809 : True := trivial
theorem hd.tw14081959909532527916 : True := trivial
theorem hd.tw2448417245163862455 : True := trivial
theorem hd.tw11011131195910976488 : True := trivial
theorem hd.tw3182187488490625086 : True := trivial
theorem hd.tw17901334829092211166 : True := trivial
theorem hd.tw3835178325580970078 : True := trivial
theorem hd.tw8428860471423672150 : True := trivial
theorem hd.tw11136197038861592535 : True := trivial
theorem hd.tw5961118342813265553 : True := trivial
theorem hd.tw9783614193127449063 : True := trivial
theorem hd.tw14400467628812073631 : True := trivial
theorem hd.tw526207354791536317 : True := trivial
theorem hd.tw3915529967508079626 : True := trivial
theorem hd.tw9271970288684553227 : True := trivial
theorem hd.tw10743916045514856203 : True := trivial
theorem hd.tw3673020696563887462 : True := trivial
theorem hd.tw14980023328507725902 : True := trivial
theorem hd.tw2101469004524951375 : True := trivial
theorem hd.tw8343274005884668182 : True := trivial
theorem hd.tw18300207936620678264 : True := trivial
theorem hd.tw15320215692710564605 : True := trivial
theorem hd.tw5148922909946612681 : True := trivial
theorem hd.tw12994019391074448376 : True := trivial
theorem hd.tw8684328023851190084 : True := trivial
theorem hd.tw17903497710992402801 : True := trivial
theorem hd.tw17925215291927510665 : True := trivial
theorem hd.tw12631932088317031055 : True := trivial
theorem hd.tw18111709267393340723 : True := trivial
theorem hd.tw11151547217846952531 : True := trivial
theorem hd.tw3005643305782870100 : True := trivial
theorem hd.tw3229955645248102723 : True := trivial
theorem hd.tw7519716089354478335 : True := trivial
theorem hd.tw17491317419825422843 : True := trivial
theorem hd.tw10792051664901133789 : True := trivial
theorem hd.tw4068527845204499245 : True := trivial
theorem hd.tw11652457597714270106 : True := trivial
theorem hd.tw14553816603554493358 : True := trivial
theorem hd.tw8004679753235328684 : True := trivial
theorem hd.tw7754304195085646258 : True := trivial
theorem hd.tw6038821095411175016 : True := trivial
theorem hd.tw4014540891139286612 : True := trivial
theorem hd.tw4297731678662094536 : True := trivial
theorem hd.tw16064382804478563927 : True := trivial
theorem hd.tw2315301623876862497 : True := trivial
theorem hd.tw15344866539931968096 : True := trivial
theorem hd.tw4272726840584523970 : True := trivial
theorem hd.tw3404104791013757517 : True := trivial
theorem hd.tw2114630138375439770 : True := trivial
theorem hd.tw16853341256802265648 : True := trivial
theorem hd.tw10424393626065333798 : True := trivial
theorem hd.tw6965799899956892507 : True := trivial
theorem hd.tw4172343393113369950 : True := trivial
theorem hd.tw13315533130655954831 : True := trivial
theorem hd.tw15675198926951892251 : True := trivial
theorem hd.tw2051048951616859547 : True := trivial
theorem hd.tw16157073509204512506 : True := trivial
theorem hd.tw17130151131035750659 : True := trivial
theorem hd.tw10847404155465417027 : True := trivial
theorem hd.tw519851828213033955 : True := trivial
theorem hd.tw6906073325868019850 : True := trivial
theorem hd.tw18322514126500204803 : True := trivial
theorem hd.tw3480954088277226078 : True := trivial
theorem hd.tw2329189449893159454 : True := trivial
theorem hd.tw11402939732021071671 : True := trivial
theorem hd.tw663384727985864361 : True := trivial
theorem hd.tw6578402527460240241 : True := trivial
theorem hd.tw7927469264209771579 : True := trivial
theorem hd.tw2442259710966052079 : True := trivial
theorem hd.tw3941438180925939637 : True := trivial
theorem hd.tw3259873300814134281 : True := trivial
theorem hd.tw7721951785955056133 : True := trivial
theorem hd.tw190519026028168232 : True := trivial
theorem hd.tw189712035060473897 : True := trivial
theorem hd.tw12070654863422294720 : True := trivial
theorem hd.tw9496365245306024149 : True := trivial
theorem hd.tw402640490398009360 : True := trivial
theorem hd.tw8545014587354053640 : True := trivial
theorem hd.tw9386895884608548742 : True := trivial
theorem hd.tw9244321171653502345 : True := trivial
theorem hd.tw18176940659606848779 : True := trivial
theorem hd.tw6123773746684550334 : True := trivial
theorem hd.tw5635641802508607975 : True := trivial
theorem hd.tw11054480109507316185 : True := trivial
theorem hd.tw6264232113106981867 : True := trivial
theorem hd.tw2708950531961675432 : True := trivial
theorem hd.tw273472170993844337 : True := trivial
theorem hd.tw13931416462566266981 : True := trivial
theorem hd.tw10024716035694756283 : True := trivial
theorem hd.tw5292301768408028288 : True := trivial
theorem hd.tw14560493823538711346 : True := trivial
theorem hd.tw6164396464334811476 : True := trivial
theorem hd.tw2711891404203595365 : True := trivial
theorem hd.tw8934143017859847078 : True := trivial
theorem hd.tw162610821266807592 : True := trivial
theorem hd.tw12239354291974867115 : True := trivial
theorem hd.tw14478148883734587675 : True := trivial
theorem hd.tw541196102884509978 : True := trivial
theorem hd.tw9617658007855726926 : True := trivial
theorem hd.tw15103106377680225435 : True := trivial
theorem hd.tw8068729725432388964 : True := trivial
theorem hd.tw9719896912496429819 : True := trivial
theorem hd.tw15946388913382835224 : True := trivial
theorem hd.tw1798425829259240090 : True := trivial
theorem hd.tw6838551448383532254 : True := trivial
theorem hd.tw11660266114150955751 : True := trivial
theorem hd.tw17213754286329925777 : True := trivial
theorem hd.tw12614811148066621264 : True := trivial
theorem hd.tw17311223219408574766 : True := trivial
theorem hd.tw2216850387143573719 : True := trivial
theorem hd.tw7382370116671421104 : True := trivial
theorem hd.tw7355570028127101125 : True := trivial
theorem hd.tw6136932545381038964 : True := trivial
theorem hd.tw16904818350239718627 : True := trivial
theorem hd.tw4993660671451451078 : True := trivial
theorem hd.tw17606422857730326317 : True := trivial
theorem hd.tw11801993109049149486 : True := trivial
theorem hd.tw12058812876911547015 : True := trivial
theorem hd.tw4086058157674990017 : True := trivial
theorem hd.tw4851647983119433812 : True := trivial
theorem hd.tw307737655149646647 : True := trivial
theorem hd.tw8801323125487838256 : True := trivial
theorem hd.tw5902613922787404954 : True := trivial
theorem hd.tw14685462170515437407 : True := trivial
theorem hd.tw4383666589626881386 : True := trivial
theorem hd.tw9702936160620672325 : True := trivial
theorem hd.tw2457190517430149469 : True := trivial
theorem hd.tw15207398651663016943 : True := trivial
theorem hd.tw5781342201191254626 : True := trivial
theorem hd.tw7525542149764818722 : True := trivial
theorem hd.tw11319892378374348655 : True := trivial
theorem hd.tw10264135568141901301 : True := trivial
theorem hd.tw12271959270614036898 : True := trivial
theorem hd.tw12602439190401603521 : True := trivial
theorem hd.tw13047593935725612058 : True := trivial
theorem hd.tw15925925280823731509 : True := trivial
theorem hd.tw13466754112058979494 : True := trivial
theorem hd.tw6411954120941647267 : True := trivial
theorem hd.tw4363365295628954845 : True := trivial
theorem hd.tw6184208073178115725 : True := trivial
theorem hd.tw16828841361933241965 : True := trivial
theorem hd.tw11213053971927718326 : True := trivial
theorem hd.tw16722109127936396110 : True := trivial
theorem hd.tw11032806212648032379 : True := trivial
theorem hd.tw2783992281797965187 : True := trivial
theorem hd.tw13342606739435360313 : True := trivial
theorem hd.tw3452082135128663414 : True := trivial
theorem hd.tw13285133528070534704 : True := trivial
theorem hd.tw9430268157657104642 : True := trivial
theorem hd.tw12070051907170230399 : True := trivial
theorem hd.tw7654286748164834634 : True := trivial
theorem hd.tw17950676927832955104 : True := trivial
theorem hd.tw9421340871869096474 : True := trivial
theorem hd.tw6598312636042714100 : True := trivial
theorem hd.tw10216474801634566288 : True := trivial
theorem hd.tw1382963296337349011 : True := trivial
theorem hd.tw17183224562656869120 : True := trivial
theorem hd.tw2284436838669742495 : True := trivial
theorem hd.tw464777395874653626 : True := trivial
theorem hd.tw4402725079659364252 : True := trivial
theorem hd.tw12173100003817136821 : True := trivial
theorem hd.tw7598622570094877466 : True := trivial
theorem hd.tw17919194246423945575 : True := trivial
theorem hd.tw14620637471214046174 : True := trivial
theorem hd.tw3008623586974134963 : True := trivial
theorem hd.tw14768889098011018680 : True := trivial
theorem hd.tw17839855588491291079 : True := trivial
theorem hd.tw5238241317806426387 : True := trivial
theorem hd.tw18093812233618175256 : True := trivial
theorem hd.tw9170477692918782315 : True := trivial
theorem hd.tw7153062008950511462 : True := trivial
theorem hd.tw17377529257436501650 : True := trivial
theorem hd.tw845060206244984605 : True := trivial
theorem hd.tw728884934406724761 : True := trivial
theorem hd.tw7523672394736509286 : True := trivial
theorem hd.tw4971549296188076032 : True := trivial
theorem hd.tw8047900516022102942 : True := trivial
theorem hd.tw13866372431405929976 : True := trivial
theorem hd.tw17234923516513369237 : True := trivial
theorem hd.tw5245234834050458271 : True := trivial
theorem hd.tw14530927132654537054 : True := trivial
theorem hd.tw13431754692932380062 : True := trivial
theorem hd.tw17001982702790524580 : True := trivial
theorem hd.tw11375277706881905925 : True := trivial
theorem hd.tw26425463804135960 : True := trivial
theorem hd.tw3219085151875037572 : True := trivial
theorem hd.tw17420951861521290806 : True := trivial
theorem hd.tw4176768124294323924 : True := trivial
theorem hd.tw11631869004601391166 : True := trivial
theorem hd.tw17696971302532935780 : True := trivial
theorem hd.tw4856431653887292112 : True := trivial
theorem hd.tw9406673726873002282 : True := trivial
theorem hd.tw9345929723534960622 : True := trivial
theorem hd.tw12832683148521936107 : True := trivial
theorem hd.tw1043307727769730188 : True := trivial
theorem hd.tw6046454685291232161 : True := trivial
theorem hd.tw2603259988358896889 : True := trivial
theorem hd.tw16634568088961857937 : True := trivial
theorem hd.tw8990313861142287110 : True := trivial
theorem hd.tw8493152586797012548 : True := trivial
theorem hd.tw11953376511379268794 : True := trivial
theorem hd.tw16456969618363192440 : True := trivial
theorem hd.tw18103342009636024947 : True := trivial
theorem hd.tw16007149819294483003 : True := trivial
theorem hd.tw13181700845877081190 : True := trivial
theorem hd.tw1013155817946168525 : True := trivial
theorem hd.tw4654797750381630734 : True := trivial
theorem hd.tw16259696140248634718 : True := trivial
theorem hd.tw1847840615245081061 : True := trivial
theorem hd.tw16477043939570097188 : True := trivial
theorem hd.tw14060154772996877548 : True := trivial
theorem hd.tw3109861748172591687 : True := trivial
theorem hd.tw4225703048834024713 : True := trivial
theorem hd.tw2951005344575393816 : True := trivial
theorem hd.tw10170382586518783626 : True := trivial
theorem hd.tw5416991563250132298 : True := trivial
theorem hd.tw9763420282994701918 : True := trivial
theorem hd.tw14294001040229213422 : True := trivial
theorem hd.tw1506431575118746342 : True := trivial
theorem hd.tw8356816923877370021 : True := trivial
theorem hd.tw10404513684093684653 : True := trivial
theorem hd.tw13322179722446271537 : True := trivial
theorem hd.tw3919010098100093602 : True := trivial
theorem hd.tw13770079208771991547 : True := trivial
theorem hd.tw9277588360372424766 : True := trivial
theorem hd.tw8117029840178788049 : True := trivial
theorem hd.tw1781861727890032366 : True := trivial
theorem hd.tw15166520500009309586 : True := trivial
theorem hd.tw15416985209724490359 : True := trivial
theorem hd.tw16053994301053490033 : True := trivial
theorem hd.tw15837987909243819085 : True := trivial
theorem hd.tw13929354066492186541 : True := trivial
theorem hd.tw13289513938125300765 : True := trivial
theorem hd.tw17895171251205151618 : True := trivial
theorem hd.tw15759970867653108152 : True := trivial
theorem hd.tw16154546982801380032 : True := trivial
theorem hd.tw10603584201595350602 : True := trivial
theorem hd.tw12588582704262371052 : True := trivial
theorem hd.tw14852329139284432860 : True := trivial
theorem hd.tw2323474266016966308 : True := trivial
theorem hd.tw6759412095888398321 : True := trivial
theorem hd.tw1413172679324656950 : True := trivial
theorem hd.tw12629568148972539762 : True := trivial
theorem hd.tw10806950440038215891 : True := trivial
theorem hd.tw9983995961361265002 : True := trivial
theorem hd.tw7578210074245671484 : True := trivial
theorem hd.tw5627419181399566287 : True := trivial
theorem hd.tw14352634086879598012 : True := trivial
theorem hd.tw4015398097383911347 : True := trivial
theorem hd.tw8965841893048198262 : True := trivial
theorem hd.tw4449123307109862055 : True := trivial
theorem hd.tw922143313871775805 : True := trivial
theorem hd.tw6767318904944593275 : True := trivial
theorem hd.tw10784824025267889561 : True := trivial
theorem hd.tw16257038226119295666 : True := trivial
theorem hd.tw15610959940260225430 : True := trivial
theorem hd.tw10117440562283002822 : True := trivial
theorem hd.tw4282304852377368616 : True := trivial
theorem hd.tw1600037746751723098 : True := trivial
theorem hd.tw5732804406350252772 : True := trivial
theorem hd.tw10752148897807903841 : True := trivial
theorem hd.tw3646829019195819677 : True := trivial
theorem hd.tw12092154237167983948 : True := trivial
theorem hd.tw7068711184596962023 : True := trivial
theorem hd.tw9345676750909349944 : True := trivial
theorem hd.tw17387473266821786944 : True := trivial
theorem hd.tw6469175993241445255 : True := trivial
theorem hd.tw7526368328331116154 : True := trivial
theorem hd.tw9131607905817354932 : True := trivial
theorem hd.tw8134915037123179040 : True := trivial
theorem hd.tw8538877666451538035 : True := trivial
theorem hd.tw6394381022753523788 : True := trivial
theorem hd.tw14705683404202351889 : True := trivial
theorem hd.tw15615420239508185596 : True := trivial
theorem hd.tw12487502673411948298 : True := trivial
theorem hd.tw442638132926106271 : True := trivial
theorem hd.tw1194904439430580092 : True := trivial
theorem hd.tw11713075325732132258 : True := trivial
theorem hd.tw14980952864720948581 : True := trivial
theorem hd.tw8671608845466749128 : True := trivial
theorem hd.tw18103420901670897651 : True := trivial
theorem hd.tw4478964076566166474 : True := trivial
theorem hd.tw16211521421427940678 : True := trivial
theorem hd.tw18245042118932799458 : True := trivial
theorem hd.tw6140570298594658328 : True := trivial
theorem hd.tw3795277891434052102 : True := trivial
theorem hd.tw6998783941825042932 : True := trivial
theorem hd.tw2134215046882385847 : True := trivial
theorem hd.tw1439246655266547700 : True := trivial
theorem hd.tw128412058910260475 : True := trivial
theorem hd.tw2463646050095909150 : True := trivial
theorem hd.tw17062030032774818151 : True := trivial
theorem hd.tw10258999931320997221 : True := trivial
theorem hd.tw11513968764499736323 : True := trivial
theorem hd.tw11551083187376567056 : True := trivial
theorem hd.tw15578025631644234493 : True := trivial
theorem hd.tw1409312971732116557 : True := trivial
theorem hd.tw432457690288141553 : True := trivial
theorem hd.tw461538923250603899 : True := trivial
theorem hd.tw12023040214023829324 : True := trivial
theorem hd.tw4138081844389336918 : True := trivial
theorem hd.tw10543509907540572799 : True := trivial
theorem hd.tw7854228177987924090 : True := trivial
theorem hd.tw6819123309680001836 : True := trivial
theorem hd.tw3706650247557058162 : True := trivial
theorem hd.tw876933089483189297 : True := trivial
theorem hd.tw5278057926702712004 : True := trivial
theorem hd.tw16868993833207775613 : True := trivial
theorem hd.tw9298403506768410418 : True := trivial
theorem hd.tw13263762954130075895 : True := trivial
theorem hd.tw16945582573551092051 : True := trivial
theorem hd.tw8735263284916673568 : True := trivial
theorem hd.tw2788664435532181463 : True := trivial
theorem hd.tw14955159897011116063 : True := trivial
theorem hd.tw11587034568685482758 : True := trivial
theorem hd.tw12901994302517312135 : True := trivial
theorem hd.tw6990203504111849199 : True := trivial
theorem hd.tw7822882547125802209 : True := trivial
theorem hd.tw5716766192118558609 : True := trivial
theorem hd.tw8683856772340465682 : True := trivial
theorem hd.tw13217225542625558698 : True := trivial
theorem hd.tw15979992855486846200 : True := trivial
theorem hd.tw17986969038992634876 : True := trivial
theorem hd.tw16858285156579221889 : True := trivial
theorem hd.tw5388632664720090651 : True := trivial
theorem hd.tw11754176132448286083 : True := trivial
theorem hd.tw9960721518486171458 : True := trivial
theorem hd.tw17336936450418997793 : True := trivial
theorem hd.tw1563692795949630186 : True := trivial
theorem hd.tw978945382295711627 : True := trivial
theorem hd.tw5976792059365374437 : True := trivial
theorem hd.tw5054737718236178183 : True := trivial
theorem hd.tw12575139184659369484 : True := trivial
theorem hd.tw11079593142295127227 : True := trivial
theorem hd.tw1118553966540926140 : True := trivial
theorem hd.tw1129884963351977449 : True := trivial
theorem hd.tw15086507016231809432 : True := trivial
theorem hd.tw1359830224848277088 : True := trivial
theorem hd.tw8959176491354863721 : True := trivial
theorem hd.tw16794629799341752650 : True := trivial
theorem hd.tw5562173858411828344 : True := trivial
theorem hd.tw6482722132109649516 : True := trivial
theorem hd.tw1299046323782801668 : True := trivial
theorem hd.tw11917015161858427179 : True := trivial
theorem hd.tw13828106393651249627 : True := trivial
theorem hd.tw8716120427605611371 : True := trivial
theorem hd.tw6818987989461384207 : True := trivial
theorem hd.tw17975533764899295144 : True := trivial
theorem hd.tw17252143746492648416 : True := trivial
theorem hd.tw10323284018533566743 : True := trivial
theorem hd.tw1222794163293265305 : True := trivial
theorem hd.tw18291419657060728153 : True := trivial
theorem hd.tw15279998641719260112 : True := trivial
theorem hd.tw6186238094035137676 : True := trivial
theorem hd.tw3953601041324332601 : True := trivial
theorem hd.tw3350844169311001129 : True := trivial
theorem hd.tw7120233287515763914 : True := trivial
theorem hd.tw1666387254794493845 : True := trivial
theorem hd.tw4478177076189095293 : True := trivial
theorem hd.tw4382473783012875800 : True := trivial
theorem hd.tw9555612238305686254 : True := trivial
theorem hd.tw12113243949977362033 : True := trivial
theorem hd.tw12459740579856956213 : True := trivial
theorem hd.tw12050417470231563642 : True := trivial
theorem hd.tw4706079058837389440 : True := trivial
theorem hd.tw697623264460660564 : True := trivial
theorem hd.tw8273930003744585626 : True := trivial
theorem hd.tw841073385643361113 : True := trivial
theorem hd.tw10678649693572172417 : True := trivial
theorem hd.tw6820862383352777685 : True := trivial
theorem hd.tw8112040973832200146 : True := trivial
theorem hd.tw10844753989422098599 : True := trivial
theorem hd.tw16240987189780228909 : True := trivial
theorem hd.tw2327210489368252092 : True := trivial
theorem hd.tw8587404781116728655 : True := trivial
theorem hd.tw9673543361469618366 : True := trivial
theorem hd.tw11210553801493137410 : True := trivial
theorem hd.tw2845679848157327705 : True := trivial
theorem hd.tw8960069828448710407 : True := trivial
theorem hd.tw15411387601460861337 : True := trivial
theorem hd.tw7028611270464810887 : True := trivial
theorem hd.tw15368132723985388332 : True := trivial
theorem hd.tw16432713993328977331 : True := trivial
theorem hd.tw4523669819894539328 : True := trivial
theorem hd.tw14353793391729792155 : True := trivial
theorem hd.tw13518370688599389936 : True := trivial
theorem hd.tw17574625026820762457 : True := trivial
theorem hd.tw7534799579077118603 : True := trivial
theorem hd.tw8268277133935991078 : True := trivial
theorem hd.tw701787995468756871 : True := trivial
theorem hd.tw1712922718373300912 : True := trivial
theorem hd.tw8351282476255451920 : True := trivial
theorem hd.tw2855845756224970109 : True := trivial
theorem hd.tw8458067239894703972 : True := trivial
theorem hd.tw17454471701868102899 : True := trivial
theorem hd.tw11912922877643110818 : True := trivial
theorem hd.tw6683769817339685419 : True := trivial
theorem hd.tw7366208706002141716 : True := trivial
theorem hd.tw15683763237869141255 : True := trivial
theorem hd.tw13855946660403688772 : True := trivial
theorem hd.tw13220430256171166289 : True := trivial
theorem hd.tw7540741092611519060 : True := trivial
theorem hd.tw14492701947808656938 : True := trivial
theorem hd.tw9657781627882305391 : True := trivial
theorem hd.tw3694398316872202419 : True := trivial
theorem hd.tw10507497572311344420 : True := trivial
theorem hd.tw15213948185873263833 : True := trivial
theorem hd.tw10403243965636340961 : True := trivial
theorem hd.tw18219297243305740317 : True := trivial
theorem hd.tw5505332120971382143 : True := trivial
theorem hd.tw15595854959937240912 : True := trivial
theorem hd.tw16056359734778111409 : True := trivial
theorem hd.tw13280443560766958183 : True := trivial
theorem hd.tw5009564483982726761 : True := trivial
theorem hd.tw732345407407602841 : True := trivial
theorem hd.tw13647732107164738365 : True := trivial
theorem hd.tw7494724483528729301 : True := trivial
theorem hd.tw10409065472786389249 : True := trivial
theorem hd.tw6898005170327248138 : True := trivial
theorem hd.tw12949589719889679912 : True := trivial
theorem hd.tw11631947586910100387 : True := trivial
theorem hd.tw4642405928176397000 : True := trivial
theorem hd.tw512641396559190090 : True := trivial
theorem hd.tw8652628183442184457 : True := trivial
theorem hd.tw12744807935193187038 : True := trivial
theorem hd.tw18227519186394308793 : True := trivial
theorem hd.tw1800889605409440832 : True := trivial
theorem hd.tw12936449754285732098 : True := trivial
theorem hd.tw13133211045375063716 : True := trivial
theorem hd.tw8609351116199087170 : True := trivial
theorem hd.tw16920754564084929960 : True := trivial
theorem hd.tw9228397985900620932 : True := trivial
theorem hd.tw185848376630758926 : True := trivial
theorem hd.tw13277076834127875243 : True := trivial
theorem hd.tw17330945745186091897 : True := trivial
theorem hd.tw6545403380812914513 : True := trivial
theorem hd.tw4315991029959535628 : True := trivial
theorem hd.tw12677348761684209422 : True := trivial
theorem hd.tw8879563391730754479 : True := trivial
theorem hd.tw15048261121198461528 : True := trivial
theorem hd.tw3759623122121258479 : True := trivial
theorem hd.tw12611767792052310623 : True := trivial
theorem hd.tw17542962492245011380 : True := trivial
theorem hd.tw8727321023445011275 : True := trivial
theorem hd.tw8516288146210602744 : True := trivial
theorem hd.tw1760603350576429475 : True := trivial
theorem hd.tw3443669649825651883 : True := trivial
theorem hd.tw4788038989552484473 : True := trivial
theorem hd.tw1097998534492414930 : True := trivial
theorem hd.tw257007361410690125 : True := trivial
theorem hd.tw17258206423299326598 : True := trivial
theorem hd.tw4377701919642642989 : True := trivial
theorem hd.tw16502264421070913907 : True := trivial
theorem hd.tw6002513971871402140 : True := trivial
theorem hd.tw3493717111155160527 : True := trivial
theorem hd.tw15083628210047938546 : True := trivial
theorem hd.tw14892549342360969540 : True := trivial
theorem hd.tw7540655947842036084 : True := trivial
theorem hd.tw6931407450589930559 : True := trivial
theorem hd.tw13903934854276604550 : True := trivial
theorem hd.tw1033889070964956483 : True := trivial
theorem hd.tw10292235466723388172 : True := trivial
theorem hd.tw5511420028821071320 : True := trivial
theorem hd.tw6555240042291301478 : True := trivial
theorem hd.tw2493985911018215709 : True := trivial
theorem hd.tw8226494294326810461 : True := trivial
theorem hd.tw6830512106363814048 : True := trivial
theorem hd.tw15833661619300960221 : True := trivial
theorem hd.tw5592360268479517082 : True := trivial
theorem hd.tw18264374347568628810 : True := trivial
theorem hd.tw11389486352061984695 : True := trivial
theorem hd.tw17681399029576232318 : True := trivial
theorem hd.tw5657824000916062451 : True := trivial
theorem hd.tw11162318198679636149 : True := trivial
theorem hd.tw7023726343779634624 : True := trivial
theorem hd.tw7082855905992002993 : True := trivial
theorem hd.tw3704167492566942397 : True := trivial
theorem hd.tw7676003278276379012 : True := trivial
theorem hd.tw799355135909283525 : True := trivial
theorem hd.tw3571134770919094901 : True := trivial
theorem hd.tw1197925565968671727 : True := trivial
theorem hd.tw8457440626546761165 : True := trivial
theorem hd.tw2391449824757734642 : True := trivial
theorem hd.tw13330244855972007585 : True := trivial
theorem hd.tw226724450230711188 : True := trivial
theorem hd.tw7512474625130614241 : True := trivial
theorem hd.tw16029623286316568529 : True := trivial
theorem hd.tw1699103778626983548 : True := trivial
theorem hd.tw1331086792558400476 : True := trivial
set_option Elab.async true in
theorem hd : PySem.Challenge.rw_sq0053_01.Holds := by
  w_on; o_law; k_head
  (case hw => w_witness2)
  k_fill
  intro w s₀ s₁ mg mb G Y fa o pm cd doc dV kV ho hd hcd hD hmg hg args vals as hpre hlay hrd hwl hlo
  have KX := kIn_of Y
  refine Ground.open G ?_
  intro T B D TE TW
  wrow_args hpre hlay hrd hwl hlo
  rename_i hS _ _ _ hI _ hn _
  refine enter_call ?_
  refine end_law (fun P => by kernel_rfl) KX T hmg hS hI hn fun s' k1 k2 k3 => ?_
  exact ⟨.inl ⟨_, _, [], rfl, fun _ => rfl, ReadsW.bool true, (by first | kernel_rfl | wrow_post), fun _ => ⟨List.nodup_nil, fun _ hm => nomatch hm⟩⟩, .of_keep k1, k3, .of_eq (k2.trans hg)⟩
end
end Mine

theorem PySem.Challenge.cw_sq0053_01_holds : PySem.Challenge.rw_sq0053_01.Holds :=
  Mine.hd
